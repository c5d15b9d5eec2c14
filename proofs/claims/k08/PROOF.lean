import PyProof.Rows.All
import KE.KDictKeyed
import KE.KDictWalk
import Wide.All
import OpenK.AllK
import Wide.FinOn
import HandS.ForMost
import HandS.Exc
import HandS.Zip
import HandS.Wide
import HandS.ExcCtx
import HandS.Deep
import HandS.TupAny
import HandS.IsInst
import HandS.SortInts
import HandS.WideBits
import HandS.Conv
import KE.GoesEnum
import HandS.ExcOwn
import HandS.WordsExc
import PyProof.Rows.ReprOcc
import KE.GoesMore
import HandS.Style
import HandS.Star
import HandS.RevTup
import HandS.SetFor
import KE.KRevSl
import PyProof.NeKinds
import HandS.ExcIs
import HandS.HotCalls
import KE.SortData
import HandS.Small
import HandS.TryOnly
import PyProof.ReprRoads
import HandS.TupMul
import HandS.TupLen
import HandS.Text
import KE.KDictZip
import PySem.Challenge.RW_commondays_k08_bounds_by_all_histories
set_option Elab.async false
set_option linter.all false
set_option maxRecDepth 100000
set_option maxHeartbeats 4000000
/-! DLa: a data layer over HandS. Values are PyData trees; a frozen part G of the heap; slots that own one mutable object. -/
namespace DL
open PySem PySem.Spec L2

abbrev D := PyData
/-- H' knows all that H knows -/
def Sub (H H' : Hp) : Prop := ∀ a o, H a = some o → H' a = some o
theorem Sub.rfl {H : Hp} : Sub H H := fun _ _ e => e
theorem Sub.tr {A B C : Hp} (x : Sub A B) (y : Sub B C) : Sub A C := fun a o e => y a o (x a o e)
theorem Sub.upd {H : Hp} {p : Addr} {o : HO} (n : H p = none) : Sub H (upd H p o) := fun a u e => by
  rw [upd_ne (ne_of_none e n)]; exact e
theorem Sub.upd2 {G H : Hp} {p : Addr} {o : HO} (s : Sub G H) : Sub (L2.upd G p o) (L2.upd H p o) := fun a u e => by
  by_cases h : a = p
  · subst h; rw [upd_same] at e ⊢; exact e
  · rw [upd_ne h] at e ⊢; exact s a u e
theorem Sub.none {G H : Hp} (s : Sub G H) {a : Addr} (n : H a = none) : G a = none := by
  cases e : G a with
  | none => rfl
  | some o => rw [s a o e] at n; cases n
theorem Sub.seqL {K : PySem.W.Frag} {H H' : Hp} {a : Addr} {xs : List V} (e : Sub H H') (h : SqL K H a xs) : SqL K H' a xs := by
  rcases h with (h | ⟨o, h⟩) | h
  · exact .inl (.inl (e _ _ h))
  · exact .inl (.inr ⟨o, e _ _ h⟩)
  · exact .inr h
theorem Sub.seqT {K : PySem.W.Frag} {H H' : Hp} {a : Addr} {xs : List V} (e : Sub H H') (h : H a = some (.tup xs)) : SqT K H' a xs := SqT.of (e _ _ h)

/-! ### data in the frozen part -/
mutual
inductive Rp (K : PySem.W.Frag) (G : Hp) : V → D → Prop
  | non : Rp K G .non .none
  | bl (b : Bool) : Rp K G (.bl b) (.bool b)
  | int (i : Int) : Rp K G (.int i) (.int i)
  | str (x : Str) : Rp K G (.str x) (.str x)
  | lst {a : Addr} {xs : List V} {ds : List D} : G a = some (.lst xs) → RpAll K G xs ds → Rp K G (.ref a) (.list ds)
  | tup {a : Addr} {xs : List V} {ds : List D} : G a = some (.tup xs) → RpAll K G xs ds → Rp K G (.ref a) (.tuple ds)
  | emp {a : Addr} : G a = some (.dK []) → Rp K G (.ref a) (.dict [])
  | scr {a : Addr} {xs : List V} {ds : List D} : SqL K G a xs → RpAll K G xs ds → Rp K G (.ref a) (.dict [(.str "SCRIPT", .list ds)])
inductive RpAll (K : PySem.W.Frag) (G : Hp) : List V → List D → Prop
  | nil : RpAll K G [] []
  | cons {v : V} {vs : List V} {d : D} {ds : List D} : Rp K G v d → RpAll K G vs ds → RpAll K G (v :: vs) (d :: ds)
end
section
variable {K : PySem.W.Frag} {G G' : Hp}
mutual
theorem Rp.mono (e : Sub G G') : ∀ {d : D} {v : V}, Rp K G v d → Rp K G' v d
  | .none, _, h => by cases h; exact .non
  | .bool b, _, h => by cases h; exact .bl b
  | .int i, _, h => by cases h; exact .int i
  | .str x, _, h => by cases h; exact .str x
  | .list ds, _, h => by cases h with | lst a b => exact .lst (e _ _ a) (RpAll.mono e b)
  | .tuple ds, _, h => by cases h with | tup a b => exact .tup (e _ _ a) (RpAll.mono e b)
  | .dict [], _, h => by cases h with | emp a => exact .emp (e _ _ a)
  | .dict [(.str x, .list ds)], _, h => by cases h with | scr a b => exact .scr (e.seqL a) (RpAll.mono e b)
theorem RpAll.mono (e : Sub G G') : ∀ {ds : List D} {vs : List V}, RpAll K G vs ds → RpAll K G' vs ds
  | [], _, h => by cases h; exact .nil
  | d :: ds, _, h => by cases h with | cons a b => exact .cons (Rp.mono e a) (RpAll.mono e b)
end
theorem RpAll.length : ∀ {ds : List D} {vs : List V}, RpAll K G vs ds → vs.length = ds.length
  | [], _, h => by cases h; rfl
  | d :: ds, _, h => by cases h with | cons a b => simp [RpAll.length b]
theorem RpAll.get : ∀ {ds : List D} {vs : List V} {i : Nat} {v : V}, RpAll K G vs ds → vs[i]? = some v → ∃ d, ds[i]? = some d ∧ Rp K G v d
  | [], _, _, _, h, e => by cases h; simp at e
  | d :: ds, _, 0, v, h, e => by cases h with | cons a b => simp at e; subst e; exact ⟨d, rfl, a⟩
  | d :: ds, _, i + 1, v, h, e => by
    cases h with | cons a b =>
      obtain ⟨d', h1, h2⟩ := RpAll.get (i := i) b (by simpa using e)
      exact ⟨d', by simpa using h1, h2⟩
theorem RpAll.getD : ∀ {ds : List D} {vs : List V} {i : Nat} {d : D}, RpAll K G vs ds → ds[i]? = some d → ∃ v, vs[i]? = some v ∧ Rp K G v d
  | [], _, _, _, h, e => by simp at e
  | d :: ds, _, 0, _, h, e => by cases h with | cons a b => simp at e; subst e; exact ⟨_, rfl, a⟩
  | d :: ds, _, i + 1, _, h, e => by
    cases h with | cons a b =>
      obtain ⟨d', h1, h2⟩ := RpAll.getD (i := i) b (by simpa using e)
      exact ⟨d', by simpa using h1, h2⟩
theorem RpAll.append : ∀ {ds es : List D} {vs ws : List V}, RpAll K G vs ds → RpAll K G ws es → RpAll K G (vs ++ ws) (ds ++ es)
  | [], _, _, _, h, g => by cases h; exact g
  | d :: ds, _, _, _, h, g => by cases h with | cons a b => exact .cons a (RpAll.append b g)
theorem RpAll.take : ∀ {ds : List D} {vs : List V} (n : Nat), RpAll K G vs ds → RpAll K G (vs.take n) (ds.take n)
  | [], _, 0, h => by cases h; exact .nil
  | [], _, n + 1, h => by cases h; exact .nil
  | d :: ds, _, 0, h => by cases h; exact .nil
  | d :: ds, _, n + 1, h => by cases h with | cons a b => exact .cons a (RpAll.take n b)
theorem RpAll.drop : ∀ {ds : List D} {vs : List V} (n : Nat), RpAll K G vs ds → RpAll K G (vs.drop n) (ds.drop n)
  | [], _, 0, h => by cases h; exact .nil
  | [], _, n + 1, h => by cases h; exact .nil
  | d :: ds, _, 0, h => h
  | d :: ds, _, n + 1, h => by cases h with | cons a b => exact RpAll.drop n b
theorem RpAll.set {x : V} {d : D} (r : Rp K G x d) : ∀ {ds : List D} {vs : List V} (i : Nat), RpAll K G vs ds → RpAll K G (vs.set i x) (ds.set i d)
  | [], _, _, h => by cases h; exact .nil
  | e :: ds, _, 0, h => by cases h with | cons a b => exact .cons r b
  | e :: ds, _, i + 1, h => by cases h with | cons a b => exact .cons a (RpAll.set r i b)
theorem RpAll.rev : ∀ {ds : List D} {vs : List V}, RpAll K G vs ds → RpAll K G vs.reverse ds.reverse
  | [], _, h => by cases h; exact .nil
  | d :: ds, _, h => by
    cases h with | cons a b =>
      rw [List.reverse_cons, List.reverse_cons]
      exact RpAll.append (RpAll.rev b) (.cons a .nil)
theorem RpAll.dropLast {ds : List D} {vs : List V} (h : RpAll K G vs ds) : RpAll K G vs.dropLast ds.dropLast := by
  rw [List.dropLast_eq_take, List.dropLast_eq_take, h.length]; exact h.take _
theorem RpAll.ints : ∀ {ns : List Int} {vs : List V}, RpAll K G vs (ns.map PyData.int) → vs = ns.map V.int
  | [], _, h => by cases h; rfl
  | n :: ns, _, h => by
    cases h with | cons a b => cases a; rw [RpAll.ints b]; rfl
theorem RpAll.of_ints : ∀ (ns : List Int), RpAll K G (ns.map V.int) (ns.map PyData.int)
  | [] => .nil
  | n :: ns => .cons (.int n) (RpAll.of_ints ns)
theorem RpAll.bls : ∀ {bs : List Bool} {vs : List V}, RpAll K G vs (bs.map PyData.bool) → vs = bs.map V.bl
  | [], _, h => by cases h; rfl
  | n :: ns, _, h => by
    cases h with | cons a b => cases a; rw [RpAll.bls b]; rfl
theorem RpAll.strs : ∀ {bs : List Str} {vs : List V}, RpAll K G vs (bs.map PyData.str) → vs = bs.map V.str
  | [], _, h => by cases h; rfl
  | n :: ns, _, h => by
    cases h with | cons a b => cases a; rw [RpAll.strs b]; rfl
mutual
/-- the kit's own relation, where no dict is in it -/
theorem Rp.dp : ∀ {d : D} {v : V}, Rp K G v d → d.canLay0 = true → Dp K G v d
  | .none, _, h, _ => by cases h; exact .non
  | .bool b, _, h, _ => by cases h; exact .bl b
  | .int i, _, h, _ => by cases h; exact .int i
  | .str x, _, h, _ => by cases h; exact .str x
  | .list ds, _, h, c => by cases h with | lst a b => exact .lst (SqL.of a) (RpAll.dp b (by simpa [PyData.canLay0] using c))
  | .tuple ds, _, h, c => by cases h with | tup a b => exact .tup (SqT.of a) (RpAll.dp b (by simpa [PyData.canLay0] using c))
  | .dict _, _, _, c => by simp [PyData.canLay0] at c
theorem RpAll.dp : ∀ {ds : List D} {vs : List V}, RpAll K G vs ds → PyData.canLayAll0 ds = true → DpAll K G vs ds
  | [], _, h, _ => by cases h; exact .nil
  | d :: ds, _, h, c => by
    have c' : d.canLay0 = true ∧ PyData.canLayAll0 ds = true := by simpa [PyData.canLayAll0] using c
    cases h with | cons a b => exact .cons (Rp.dp a c'.1) (RpAll.dp b c'.2)
end
end

/-! ### what a slot owns -/
inductive OC where
  | lst (ds : List D)
  | dK (kvs : List (Key × D))
  | dT (kvs : List (List Key × D))
  /-- a dict with nested tuples of ints as keys, all its values True -/
  | dN (ks : List D)
def keyD : Key → D
  | .inl i => .int i
  | .inr x => .str x
def OC.toD : OC → D
  | .lst ds => .list ds
  | .dK kvs => .dict (kvs.map fun p => (keyD p.1, p.2))
  | .dT kvs => .dict (kvs.map fun p => (.tuple (p.1.map keyD), p.2))
  | .dN ks => .dict (ks.map fun d => (d, .bool true))
abbrev KvOk {κ : Type} (K : PySem.W.Frag) (G : Hp) : List (κ × V) → List (κ × D) → Prop := Paired fun p q => p.1 = q.1 ∧ Rp K G p.2 q.2
mutual
def nkD : D → Option NestedKey
  | .int i => some (.num i)
  | .tuple xs => (nkAll xs).map .tup
  | _ => none
def nkAll : List D → Option (List NestedKey)
  | [] => some []
  | d :: ds => match nkD d, nkAll ds with
    | some k, some ks => some (k :: ks)
    | _, _ => none
end
def isTup : D → Bool
  | .tuple (_ :: _) => true
  | _ => false
/-- the key of such a dict -/
structure NkOk (d : D) (k : NestedKey) : Prop where
  is : nkD d = some k
  dp : k.depth ≤ 8
  sh : SeqAt.shaped d = true
  tp : isTup d = true
/-- at a stands a dict with these entries -/
def dictAt (w : World) (a : Addr) (L : List (NestedKey × Addr × Value)) : Heap → Prop := fun h => ∃ o es ep, h.get? a = some o ∧ o.ExactDict ∧ o.data = .dict es ep ∧ es.toList = L.map fun x => ⟨NestedKey.hash w x.1, .ref x.2.1, x.2.2⟩
def DnOk (K : PySem.W.Frag) (G : Hp) (ks : List D) (φ : Heap → Prop) : Prop := ∃ (a : Addr) (w : World) (L : List (NestedKey × Addr × Value)), a ≠ sysModules ∧ φ = dictAt w a L ∧ Paired (fun (x : NestedKey × Addr × Value) (d : D) => NkOk d x.1 ∧ Rp K G (.ref x.2.1) d) L ks ∧ (L.map (·.1)).Nodup
theorem DnOk.mono {K : PySem.W.Frag} {G G' : Hp} (e : Sub G G') {ks : List D} {φ : Heap → Prop} (h : DnOk K G ks φ) : DnOk K G' ks φ := by
  obtain ⟨a, w, L, h0, h1, h2, h3⟩ := h
  exact ⟨a, w, L, h0, h1, Paired.mapP h2 fun _ _ q => ⟨q.1, q.2.mono e⟩, h3⟩
inductive OcOk (K : PySem.W.Frag) (G : Hp) : OC → HO → Prop
  | lst {ds : List D} {vs : List V} : RpAll K G vs ds → OcOk K G (.lst ds) (.lst vs)
  | dK {ds : List (Key × D)} {vs : List (Key × V)} : KvOk K G vs ds → OcOk K G (.dK ds) (.dK vs)
  | dT {ds : List (List Key × D)} {vs : List (List Key × V)} : KvOk K G vs ds → OcOk K G (.dT ds) (.dT vs)
  | dN {ks : List D} {φ : Heap → Prop} : DnOk K G ks φ → OcOk K G (.dN ks) (.ext φ)
theorem KvOk.mono {κ : Type} {K : PySem.W.Frag} {G G' : Hp} (e : Sub G G') {a : List (κ × V)} {b : List (κ × D)} (h : KvOk K G a b) : KvOk K G' a b :=
  Paired.mapP h fun _ _ q => ⟨q.1, q.2.mono e⟩
theorem OcOk.mono {K : PySem.W.Frag} {G G' : Hp} (e : Sub G G') {c : OC} {o : HO} (h : OcOk K G c o) : OcOk K G' c o := by
  cases h with
  | lst a => exact .lst (a.mono e)
  | dK a => exact .dK (KvOk.mono e a)
  | dT a => exact .dT (KvOk.mono e a)
  | dN a => exact .dN (a.mono e)

inductive Slot where
  | un
  | fz (d : D)
  | own (c : OC)
  /-- an exception that is handled -/
  | ex (a : Addr)
abbrev Rho := List Slot
def OwnAt (σ : St) (ρ : Rho) (i : Nat) (a : Addr) : Prop := ∃ c, ρ[i]? = some (.own c) ∧ σ[i]? = some (some (.ref a))
def Ow (σ : St) (ρ : Rho) (a : Addr) : Prop := ∃ i, OwnAt σ ρ i a
def SlotOk (K : PySem.W.Frag) (G H : Hp) (o : Option (Option V)) : Slot → Prop
  | .un => True
  | .ex a => o = some (some (.ref a))
  | .fz d => ∃ v, o = some (some v) ∧ Rp K G v d
  | .own c => ∃ a u, o = some (some (.ref a)) ∧ G a = none ∧ H a = some u ∧ OcOk K G c u
structure SR (K : PySem.W.Frag) (G H : Hp) (σ : St) (ρ : Rho) : Prop where
  sub : Sub G H
  len : σ.length = ρ.length
  ok : ∀ (i : Nat) (s : Slot), ρ[i]? = some s → SlotOk K G H σ[i]? s
  sep : ∀ (i j : Nat) (a : Addr), OwnAt σ ρ i a → OwnAt σ ρ j a → i = j
structure Fr (G H G' H' : Hp) (L : Addr → Prop) : Prop where
  ext : Sub G G'
  keep : ∀ a o, H a = some o → ¬ L a → H' a = some o
  nog : ∀ a o, H a = some o → G a = none → ¬ L a → G' a = none
/-- a step of the state -/
structure Stp (K : PySem.W.Frag) (G H : Hp) (σ : St) (ρ : Rho) (G' H' : Hp) (σ' : St) (ρ' : Rho) : Prop where
  sr : SR K G' H' σ' ρ'
  fr : Fr G H G' H' (Ow σ ρ)
  ow : ∀ a, Ow σ' ρ' a → Ow σ ρ a ∨ H a = none
section
variable {K : PySem.W.Frag} {G H G1 H1 G2 H2 : Hp} {σ σ1 σ2 : St} {ρ ρ1 ρ2 : Rho}
theorem Fr.rfl {L : Addr → Prop} : Fr G H G H L := ⟨Sub.rfl, fun _ _ e _ => e, fun _ _ _ n _ => n⟩
theorem Fr.tr {L L1 : Addr → Prop} (x : Fr G H G1 H1 L) (y : Fr G1 H1 G2 H2 L1) (hl : ∀ a, L1 a → L a ∨ H a = none) : Fr G H G2 H2 L := by
  have nl : ∀ a o, H a = some o → ¬ L a → ¬ L1 a := fun a o e n q => by
    rcases hl a q with z | z
    · exact n z
    · rw [e] at z; cases z
  exact ⟨x.ext.tr y.ext, fun a o e n => y.keep a o (x.keep a o e n) (nl a o e n), fun a o e g n => y.nog a o (x.keep a o e n) (x.nog a o e g n) (nl a o e n)⟩
theorem Stp.rfl (s : SR K G H σ ρ) : Stp K G H σ ρ G H σ ρ := ⟨s, Fr.rfl, fun _ h => .inl h⟩
theorem Stp.tr (x : Stp K G H σ ρ G1 H1 σ1 ρ1) (y : Stp K G1 H1 σ1 ρ1 G2 H2 σ2 ρ2) : Stp K G H σ ρ G2 H2 σ2 ρ2 := by
  refine ⟨y.sr, x.fr.tr y.fr x.ow, fun a h => ?_⟩
  rcases y.ow a h with z | z
  · exact x.ow a z
  · by_cases q : Ow σ ρ a
    · exact .inl q
    · right
      cases e : H a with
      | none => exact Eq.refl _
      | some o => rw [x.fr.keep a o e q] at z; cases z
theorem SR.fz {i : Nat} {d : D} (s : SR K G H σ ρ) (h : ρ[i]? = some (.fz d)) : ∃ v, σ[i]? = some (some v) ∧ Rp K G v d := s.ok i _ h
theorem SR.own {i : Nat} {c : OC} (s : SR K G H σ ρ) (h : ρ[i]? = some (.own c)) : ∃ a u, σ[i]? = some (some (.ref a)) ∧ G a = none ∧ H a = some u ∧ OcOk K G c u := s.ok i _ h
/-- the heap has grown, no slot has changed -/
structure Ext0 (G H G' H' : Hp) : Prop where
  g : Sub G G'
  h : Sub H H'
  gh : Sub G' H'
  n : ∀ a o, H a = some o → G a = none → G' a = none
theorem Ext0.rfl (s : Sub G H) : Ext0 G H G H := ⟨Sub.rfl, Sub.rfl, s, fun _ _ _ e => e⟩
theorem Ext0.tr (x : Ext0 G H G1 H1) (y : Ext0 G1 H1 G2 H2) : Ext0 G H G2 H2 :=
  ⟨x.g.tr y.g, x.h.tr y.h, y.gh, fun a o e n => y.n a o (x.h a o e) (x.n a o e n)⟩
/-- a new object, frozen -/
theorem Ext0.new {p : Addr} {o : HO} (s : Sub G H) (n : H p = none) : Ext0 G H (upd G p o) (upd H p o) :=
  ⟨Sub.upd (s.none n), Sub.upd n, Sub.upd2 s, fun a u e g => by rw [upd_ne (ne_of_none e n)]; exact g⟩
/-- a new object, owned by nobody yet -/
theorem Ext0.newH {p : Addr} {o : HO} (s : Sub G H) (n : H p = none) : Ext0 G H G (upd H p o) :=
  ⟨Sub.rfl, Sub.upd n, s.tr (Sub.upd n), fun a u e g => g⟩
theorem SlotOk.ext {o : Option (Option V)} (x : Ext0 G H G1 H1) : ∀ {s : Slot}, SlotOk K G H o s → SlotOk K G1 H1 o s
  | .un, _ => trivial
  | .ex _, h => h
  | .fz _, ⟨v, e, r⟩ => ⟨v, e, r.mono x.g⟩
  | .own _, ⟨a, u, e, g, h, r⟩ => ⟨a, u, e, x.n a u h g, x.h a u h, r.mono x.g⟩
theorem SR.ext (s : SR K G H σ ρ) (x : Ext0 G H G1 H1) : Stp K G H σ ρ G1 H1 σ ρ :=
  ⟨⟨x.gh, s.len, fun i u e => (s.ok i u e).ext x, s.sep⟩, ⟨x.g, fun a o e _ => x.h a o e, fun a o e g _ => x.n a o e g⟩, fun _ h => .inl h⟩
end

/-! ### outcomes -/
structure Exc where
  cls : Str
  args : List (Str × D)
inductive Out (α : Type) where
  | ok (a : α) (ρ : Rho)
  | err (c : Exc) (ρ : Rho)
  | bad
def Out.Post {α : Type} (o : Out α) (P : α → Rho → Prop) (E : Exc → Rho → Prop) : Prop :=
  match o with
  | .ok a ρ => P a ρ
  | .err c ρ => E c ρ
  | .bad => False
abbrev M (α : Type) := Rho → Out α
def M.bind {α β : Type} (m : M α) (f : α → M β) : M β := fun ρ =>
  match m ρ with
  | .ok a ρ' => f a ρ'
  | .err c ρ' => .err c ρ'
  | .bad => .bad
def M.ret {α : Type} (a : α) : M α := fun ρ => .ok a ρ
def M.fail {α : Type} : M α := fun _ => .bad
def M.opt {α : Type} : Option α → M α
  | some a => fun ρ => .ok a ρ
  | none => fun _ => .bad
def M.map {α β : Type} (f : α → β) (m : M α) : M β := m.bind fun a => M.ret (f a)
section
variable {α β : Type} {P : β → Rho → Prop} {E : Exc → Rho → Prop} {ρ : Rho}
theorem post_bind {m : M α} {f : α → M β} : (m.bind f ρ).Post P E ↔ (m ρ).Post (fun a ρ' => (f a ρ').Post P E) E := by
  unfold M.bind; cases m ρ <;> exact Iff.rfl
theorem Out.Post.imp {o : Out β} {P' : β → Rho → Prop} {E' : Exc → Rho → Prop} (h : o.Post P E) (hp : ∀ a ρ, P a ρ → P' a ρ) (he : ∀ c ρ, E c ρ → E' c ρ) : o.Post P' E' := by
  cases o with
  | ok a ρ => exact hp _ _ h
  | err c ρ => exact he _ _ h
  | bad => exact h
end
end DL

/-! DLb: readings over data, and the first rules. -/
namespace DL
open PySem PySem.Spec L2

structure Gm where
  K : PySem.W.Frag
  mg : Str → Option Value

def ExcOk (Γ : Gm) (G : Hp) (c : Exc) (cls : Value) (dx : Option Addr) : Prop :=
  ∃ C, Γ.mg c.cls = some (.ref C) ∧ cls = .ref C ∧
    ((c.args = [] ∧ dx = none) ∨ (c.args ≠ [] ∧ ∃ d fs, dx = some d ∧ G d = some (.xd fs) ∧ KvOk Γ.K G fs c.args))
/-- the wish for an exception, from a state -/
def EW (Γ : Gm) (W : WX) (G H : Hp) (σ : St) (ρ : Rho) : Exc → Rho → Prop := fun c ρ' =>
  ∀ cls dx G' H', Stp Γ.K G H σ ρ G' H' σ ρ' → ExcOk Γ G' c cls dx → W cls dx σ H'
section
variable {Γ : Gm} {W : WX} {G H G1 H1 : Hp} {σ : St} {ρ ρ1 : Rho}
theorem EW.tr (x : Stp Γ.K G H σ ρ G1 H1 σ ρ1) {c : Exc} {ρ' : Rho} (h : EW Γ W G H σ ρ c ρ') : EW Γ W G1 H1 σ ρ1 c ρ' :=
  fun cls dx G' H' y e => h cls dx G' H' (x.tr y) e
end
def tD (Γ : Gm) (W : WX) (m : M D) : TE := fun σ H Q => ∃ G ρ, SR Γ.K G H σ ρ ∧
  (m ρ).Post (fun d ρ' => ∀ v G' H', Stp Γ.K G H σ ρ G' H' σ ρ' → Rp Γ.K G' v d → Q v H') (EW Γ W G H σ ρ)
def tT (Γ : Gm) (W : WX) (m : M Bool) : TT := fun σ H Q => ∃ G ρ, SR Γ.K G H σ ρ ∧
  (m ρ).Post (fun b ρ' => ∀ G' H', Stp Γ.K G H σ ρ G' H' σ ρ' → Q b H') (EW Γ W G H σ ρ)
/-- a fresh object that nobody owns yet -/
def Free (K : PySem.W.Frag) (G H : Hp) (σ : St) (ρ : Rho) (G' H' : Hp) (σ' : St) (ρ' : Rho) (v : V) (c : OC) : Prop :=
  ∃ a u, v = .ref a ∧ G' a = none ∧ H' a = some u ∧ OcOk K G' c u ∧ ¬ Ow σ' ρ' a ∧ (Ow σ ρ a ∨ H a = none)
def tO (Γ : Gm) (W : WX) (m : M OC) : TE := fun σ H Q => ∃ G ρ, SR Γ.K G H σ ρ ∧
  (m ρ).Post (fun c ρ' => ∀ v G' H', Stp Γ.K G H σ ρ G' H' σ ρ' → Free Γ.K G H σ ρ G' H' σ ρ' v c → Q v H') (EW Γ W G H σ ρ)
/-- arguments: frozen data, or a slot's own object -/
inductive Arg where
  | fz (d : D)
  | rf (i : Nat)
def ArgOk (K : PySem.W.Frag) (G : Hp) (σ : St) (v : V) : Arg → Prop
  | .fz d => Rp K G v d
  | .rf i => σ[i]? = some (some v)
abbrev ArgsOk (K : PySem.W.Frag) (G : Hp) (σ : St) : List V → List Arg → Prop := Paired (ArgOk K G σ)
def tA (Γ : Gm) (W : WX) (m : M (List Arg)) : TA := fun σ H Q => ∃ G ρ, SR Γ.K G H σ ρ ∧
  (m ρ).Post (fun as ρ' => ∀ vs G' H', Stp Γ.K G H σ ρ G' H' σ ρ' → ArgsOk Γ.K G' σ vs as → Q vs H') (EW Γ W G H σ ρ)
def tDs (Γ : Gm) (W : WX) (m : M (List D)) : TA := fun σ H Q => ∃ G ρ, SR Γ.K G H σ ρ ∧
  (m ρ).Post (fun ds ρ' => ∀ vs G' H', Stp Γ.K G H σ ρ G' H' σ ρ' → RpAll Γ.K G' vs ds → Q vs H') (EW Γ W G H σ ρ)

/-! ### the readings may be weakened -/
section
variable {X : Cx}
theorem PE.imp {e : Expr} {t t' : TE} (h : PE X e t) (k : ∀ σ H Q, t' σ H Q → t σ H Q) : PE X e t' := ⟨fun pins s σ H Q I q => h.run pins s σ H Q I (k _ _ _ q)⟩
theorem PT.imp {e : Expr} {t t' : TT} (h : PT X e t) (k : ∀ σ H Q, t' σ H Q → t σ H Q) : PT X e t' := ⟨fun pins s σ H Q I q => h.run pins s σ H Q I (k _ _ _ q)⟩
theorem PW.imp {e : Expr} {t t' : TT} (h : PW X e t) (k : ∀ σ H Q, t' σ H Q → t σ H Q) : PW X e t' := ⟨fun w pins s σ H Q I q => h.run w pins s σ H Q I (k _ _ _ q)⟩
theorem PA.imp {e : List Expr} {t t' : TA} (h : PA X e t) (k : ∀ σ H Q, t' σ H Q → t σ H Q) : PA X e t' := ⟨fun p pins s σ H Q I q => h.run p pins s σ H Q I (k _ _ _ q)⟩
theorem PS.imp {e : Stmt} {t t' : TS} (h : PS X e t) (k : ∀ D σ H, t' D σ H → t D σ H) : PS X e t' := ⟨fun pins s σ H D I q => h.run pins s σ H D I (k _ _ _ q)⟩
theorem PSs.imp {e : List Stmt} {t t' : TS} (h : PSs X e t) (k : ∀ D σ H, t' D σ H → t D σ H) : PSs X e t' := ⟨fun pins s σ H D I q => h.run pins s σ H D I (k _ _ _ q)⟩
theorem PG.imp {e : Expr} {t t' : TG} (h : PG X e t) (k : ∀ v σ H Q, t' v σ H Q → t v σ H Q) : PG X e t' := ⟨fun pins s σ H v u Q I r q => h.run pins s σ H v u Q I r (k _ _ _ _ q)⟩
theorem PI.imp {tg e : Expr} {t t' : TI} (h : PI X tg e t) (k : ∀ σ H R, t' σ H R → t σ H R) : PI X tg e t' := ⟨fun pins s σ H R I q => h.run pins s σ H R I (k _ _ _ q)⟩
end

/-! ### values, by their operators -/
/-- a pure operation on two values -/
def R2P (K : PySem.W.Frag) (r : R2) (g : D → D → Option D) : Prop := ∀ (G H : Hp) (x y : V) (d e z : D) (Q : VK), Sub G H → Rp K G x d → Rp K G y e → g d e = some z →
  (∀ v G' H', Ext0 G H G' H' → Rp K G' v z → Q v H') → r x y H Q
def RUP (K : PySem.W.Frag) (r : V → Hp → VK → Prop) (g : D → Option D) : Prop := ∀ (G H : Hp) (x : V) (d z : D) (Q : VK), Sub G H → Rp K G x d → g d = some z →
  (∀ v G' H', Ext0 G H G' H' → Rp K G' v z → Q v H') → r x H Q
def RNP (K : PySem.W.Frag) (r : List V → Hp → VK → Prop) (g : List D → Option D) : Prop := ∀ (G H : Hp) (xs : List V) (ds : List D) (z : D) (Q : VK), Sub G H → RpAll K G xs ds → g ds = some z →
  (∀ v G' H', Ext0 G H G' H' → Rp K G' v z → Q v H') → r xs H Q

def eBin (g : D → D → Option D) (ma mb : M D) : M D := ma.bind fun x => mb.bind fun y => M.opt (g x y)
def eUn (g : D → Option D) (ma : M D) : M D := ma.bind fun x => M.opt (g x)
def eCall (g : List D → Option D) (ma : M (List D)) : M D := ma.bind fun xs => M.opt (g xs)
def eNil {α : Type} : M (List α) := M.ret []
def eCons {α : Type} (ma : M α) (mb : M (List α)) : M (List α) := ma.bind fun x => mb.bind fun xs => M.ret (x :: xs)
def aFz (ma : M D) : M Arg := ma.bind fun d => M.ret (.fz d)
def aRf (i : Nat) : M Arg := M.ret (.rf i)
def eC (d : D) : M D := M.ret d
/-- a name; the own object of a slot is frozen by it -/
def eVar (i : Nat) : M D := fun ρ =>
  match ρ[i]? with
  | some (.fz d) => .ok d ρ
  | some (.own (.lst ds)) => .ok (.list ds) (ρ.set i (.fz (.list ds)))
  | _ => .bad

section
variable {X : Cx} {Γ : Gm} {W : WX} {pos : Pos}
theorem opt_post {α : Type} {o : Option α} {ρ : Rho} {P : α → Rho → Prop} {E : Exc → Rho → Prop} (h : (M.opt o ρ).Post P E) : ∃ z, o = some z ∧ P z ρ := by
  cases o with
  | none => exact h.elim
  | some z => exact ⟨z, rfl, h⟩
theorem de_bin {op : Operator} {r : R2} {g : D → D → Option D} {a b : Expr} {ma mb : M D} (ho : OpR X (binaryOp op) r) (hr : R2P Γ.K r g) (ha : PE X a (tD Γ W ma)) (hb : PE X b (tD Γ W mb)) :
    PE X (.BinOp a op b pos) (tD Γ W (eBin g ma mb)) := by
  refine PE.imp (pe_op ho ha hb) fun σ H Q ⟨G, ρ, s, h⟩ => ⟨G, ρ, s, (post_bind.mp h).imp (fun d ρ1 h1 v G1 H1 x1 r1 => ?_) fun c ρ' e => e⟩
  refine ⟨G1, ρ1, x1.sr, (post_bind.mp h1).imp (fun e ρ2 h2 u G2 H2 x2 r2 => ?_) fun c ρ' e => e.tr x1⟩
  obtain ⟨z, hz, q⟩ := opt_post h2
  exact hr G2 H2 v u d e z Q x2.sr.sub (r1.mono x2.fr.ext) r2 hz fun w G3 H3 x r3 => q w G3 H3 ((x1.tr x2).tr (x2.sr.ext x)) r3
theorem de_cmp {op : CmpOp} {r : R2} {g : D → D → Option D} {a b : Expr} {ma mb : M D} (ho : OpR X (compareOp op) r) (hr : R2P Γ.K r g) (ha : PE X a (tD Γ W ma)) (hb : PE X b (tD Γ W mb)) (hm : behindInMarks op b = false) :
    PE X (.Compare a [op] [b] pos) (tD Γ W (eBin g ma mb)) := by
  refine PE.imp (pe_cmpR ho ha hb hm) fun σ H Q ⟨G, ρ, s, h⟩ => ⟨G, ρ, s, (post_bind.mp h).imp (fun d ρ1 h1 v G1 H1 x1 r1 => ?_) fun c ρ' e => e⟩
  refine ⟨G1, ρ1, x1.sr, (post_bind.mp h1).imp (fun e ρ2 h2 u G2 H2 x2 r2 => ?_) fun c ρ' e => e.tr x1⟩
  obtain ⟨z, hz, q⟩ := opt_post h2
  exact hr G2 H2 v u d e z Q x2.sr.sub (r1.mono x2.fr.ext) r2 hz fun w G3 H3 x r3 => q w G3 H3 ((x1.tr x2).tr (x2.sr.ext x)) r3
/-- a value that is a bool, as a test -/
def asB (m : M D) : M Bool := m.bind fun d => match d with
  | .bool b => M.ret b
  | _ => M.fail
theorem asB_post {m : M D} {ρ : Rho} {P : Bool → Rho → Prop} {E : Exc → Rho → Prop} (h : (asB m ρ).Post P E) : (m ρ).Post (fun d ρ' => ∃ b, d = .bool b ∧ P b ρ') E := by
  refine (post_bind.mp h).imp (fun d ρ' q => ?_) fun _ _ e => e
  cases d <;> first | exact q.elim | exact ⟨_, rfl, q⟩
theorem dt_cmp {op : CmpOp} {r : R2} {g : D → D → Option D} {a b : Expr} {ma mb : M D} (ho : OpR X (compareOp op) r) (hr : R2P Γ.K r g) (ha : PE X a (tD Γ W ma)) (hb : PE X b (tD Γ W mb)) (hm : behindInMarks op b = false) :
    PT X (.Compare a [op] [b] pos) (tT Γ W (asB (eBin g ma mb))) := by
  refine PT.imp (pt_cmpR ho ha hb hm) fun σ H Q ⟨G, ρ, s, h⟩ => ⟨G, ρ, s, (post_bind.mp (asB_post h)).imp (fun d ρ1 h1 v G1 H1 x1 r1 => ?_) fun c ρ' e => e⟩
  refine ⟨G1, ρ1, x1.sr, (post_bind.mp h1).imp (fun e ρ2 h2 u G2 H2 x2 r2 => ?_) fun c ρ' e => e.tr x1⟩
  obtain ⟨z, hz, b, ez, q⟩ := opt_post h2
  subst ez
  refine hr G2 H2 v u d e _ _ x2.sr.sub (r1.mono x2.fr.ext) r2 hz fun w G3 H3 x r3 => ?_
  cases r3
  exact ⟨b, rfl, q G3 H3 ((x1.tr x2).tr (x2.sr.ext x))⟩
theorem de_un {op : UnaryOp} {r : V → Hp → VK → Prop} {g : D → Option D} {a : Expr} {ma : M D} (ho : UnR X (unaryOp op) r) (hr : RUP Γ.K r g) (ha : PE X a (tD Γ W ma)) : PE X (.UnaryOp op a pos) (tD Γ W (eUn g ma)) := by
  refine PE.imp (pe_un ho ha) fun σ H Q ⟨G, ρ, s, h⟩ => ⟨G, ρ, s, (post_bind.mp h).imp (fun d ρ1 h1 v G1 H1 x1 r1 => ?_) fun c ρ' e => e⟩
  obtain ⟨z, hz, q⟩ := opt_post h1
  exact hr G1 H1 v d z Q x1.sr.sub r1 hz fun w G3 H3 x r3 => q w G3 H3 (x1.tr (x1.sr.ext x)) r3
theorem de_ix {r : R2} {g : D → D → Option D} {a b : Expr} {ma mb : M D} (ho : IxR X r) (hr : R2P Γ.K r g) (ha : PE X a (tD Γ W ma)) (hb : PE X b (tD Γ W mb)) (hs : PlainIx b) :
    PE X (.Subscript a b pos) (tD Γ W (eBin g ma mb)) := by
  refine PE.imp (pe_ix ho ha hb hs) fun σ H Q ⟨G, ρ, s, h⟩ => ⟨G, ρ, s, (post_bind.mp h).imp (fun d ρ1 h1 v G1 H1 x1 r1 => ?_) fun c ρ' e => e⟩
  refine ⟨G1, ρ1, x1.sr, (post_bind.mp h1).imp (fun e ρ2 h2 u G2 H2 x2 r2 => ?_) fun c ρ' e => e.tr x1⟩
  obtain ⟨z, hz, q⟩ := opt_post h2
  exact hr G2 H2 v u d e z Q x2.sr.sub (r1.mono x2.fr.ext) r2 hz fun w G3 H3 x r3 => q w G3 H3 ((x1.tr x2).tr (x2.sr.ext x)) r3

/-! ### names, constants -/
theorem de_const {e : Expr} {v : V} {d : D} (h : PE X e (tC v)) (r : ∀ G, Rp Γ.K G v d) : PE X e (tD Γ W (eC d)) :=
  PE.imp h fun σ H Q ⟨G, ρ, s, h⟩ => h v G H (Stp.rfl s) (r G)
theorem de_int {i : Int} {j : Nat} : PE X (.Constant (.int i) j pos) (tD Γ W (eC (.int i))) := de_const pe_int fun _ => .int i
theorem de_bool {i : Bool} {j : Nat} : PE X (.Constant (.bool i) j pos) (tD Γ W (eC (.bool i))) := de_const pe_bl fun _ => .bl i
theorem de_none {j : Nat} : PE X (.Constant .none j pos) (tD Γ W (eC .none)) := de_const pe_non fun _ => .non
theorem de_str {x : Str} {j : Nat} : PE X (.Constant (.str x) j pos) (tD Γ W (eC (.str x))) := de_const pe_str fun _ => .str x
theorem ow_set_fz {σ : St} {ρ : Rho} {i : Nat} {d : D} {a : Addr} {j : Nat} (h : OwnAt σ (ρ.set i (.fz d)) j a) : OwnAt σ ρ j a := by
  obtain ⟨c, e1, e2⟩ := h
  refine ⟨c, ?_, e2⟩
  by_cases q : i = j
  · subst q
    rw [List.getElem?_set] at e1
    split at e1
    · split at e1 <;> cases e1
    · contradiction
  · rw [List.getElem?_set_ne q] at e1; exact e1
/-- an own list is frozen -/
theorem SR.freeze {K : PySem.W.Frag} {G H : Hp} {σ : St} {ρ : Rho} {i : Nat} {ds : List D} (s : SR K G H σ ρ) (h : ρ[i]? = some (.own (.lst ds))) :
    ∃ v G', σ[i]? = some (some v) ∧ Stp K G H σ ρ G' H σ (ρ.set i (.fz (.list ds))) ∧ Rp K G' v (.list ds) := by
  obtain ⟨a, u, e1, e2, e3, e4⟩ := s.own h
  cases e4 with
  | @lst _ vs e4 =>
    have oi : OwnAt σ ρ i a := ⟨_, h, e1⟩
    have sub : Sub G (upd G a (.lst vs)) := Sub.upd e2
    have rp : Rp K (upd G a (.lst vs)) (.ref a) (.list ds) := .lst upd_same (e4.mono sub)
    refine ⟨.ref a, upd G a (.lst vs), e1, ⟨⟨fun b o e => ?_, by rw [List.length_set]; exact s.len, fun j t e => ?_, fun j k b x y => s.sep j k b (ow_set_fz x) (ow_set_fz y)⟩,
      ⟨sub, fun b o e _ => e, fun b o e g n => ?_⟩, fun b ⟨j, x⟩ => .inl ⟨j, ow_set_fz x⟩⟩, rp⟩
    · by_cases q : b = a
      · subst q; rw [upd_same] at e; cases e; exact e3
      · rw [upd_ne q] at e; exact s.sub b o e
    · by_cases q : i = j
      · subst q
        have hi : i < ρ.length := by
          cases Nat.lt_or_ge i ρ.length with
          | inl z => exact z
          | inr z => rw [List.getElem?_eq_none z] at h; cases h
        rw [List.getElem?_set_self hi] at e
        cases e
        exact ⟨.ref a, e1, rp⟩
      · rw [List.getElem?_set_ne q] at e
        have z := s.ok j t e
        cases t with
        | un => trivial
        | ex a => exact z
        | fz d => obtain ⟨v, x1, x2⟩ := z; exact ⟨v, x1, x2.mono sub⟩
        | own c =>
          obtain ⟨b, u, x1, x2, x3, x4⟩ := z
          refine ⟨b, u, x1, ?_, x3, x4.mono sub⟩
          rw [upd_ne]
          · exact x2
          · intro z
            subst z
            exact q (s.sep i j _ oi ⟨c, e, x1⟩)
    · rw [upd_ne]
      · exact g
      · intro z; subst z; exact n ⟨i, oi⟩
theorem de_var {i : Nat} {x : Str} (h : PE X (.Name x pos) (tVar i)) : PE X (.Name x pos) (tD Γ W (eVar i)) := by
  refine PE.imp h fun σ H Q ⟨G, ρ, s, h⟩ => ?_
  unfold eVar at h
  split at h
  · rename_i d e
    obtain ⟨v, e1, e2⟩ := s.fz e
    exact ⟨v, e1, h v G H (Stp.rfl s) e2⟩
  · rename_i ds e
    obtain ⟨v, G', e1, x, r⟩ := s.freeze e
    exact ⟨v, e1, h v G' H x r⟩
  · exact h.elim

/-! ### arguments, calls of built-ins -/
theorem ds_nil : PA X [] (tDs Γ W eNil) := PA.imp pa_nil fun σ H Q ⟨G, ρ, s, h⟩ => h [] G H (Stp.rfl s) .nil
theorem ds_cons {e : Expr} {es : List Expr} {ma : M D} {mb : M (List D)} (ha : PE X e (tD Γ W ma)) (hb : PA X es (tDs Γ W mb)) (hs : starEach (e :: es) X.env = (false, eval e X.env) :: starEach es X.env := by rfl) :
    PA X (e :: es) (tDs Γ W (eCons ma mb)) := by
  refine PA.imp (pa_cons ha hb hs) fun σ H Q ⟨G, ρ, s, h⟩ => ⟨G, ρ, s, (post_bind.mp h).imp (fun d ρ1 h1 v G1 H1 x1 r1 => ?_) fun c ρ' e => e⟩
  exact ⟨G1, ρ1, x1.sr, (post_bind.mp h1).imp (fun e ρ2 h2 u G2 H2 x2 r2 => h2 _ G2 H2 (x1.tr x2) (.cons (r1.mono x2.fr.ext) r2)) fun c ρ' e => e.tr x1⟩
theorem de_callB {x : Str} {p : Pos} {e : Expr} {es : List Expr} {id : String} {r : List V → Hp → VK → Prop} {g : List D → Option D} {m : M (List D)} (hc : CallR X (.builtin id) r) (hr : RNP Γ.K r g) (hg : Gl X x) (hm : X.mg x = none) (hv : bootBuiltins x = some (.builtin id))
    (ha : PA X (e :: es) (tDs Γ W m)) (hn : x ≠ "__name__" := by decide) (hdb : (x == ("__debug__" : Str)) = false := by decide)
    (he : starEach (e :: es) X.env = (false, eval e X.env) :: starEach es X.env := by rfl) (hpl : (backTo pos (starEach es X.env)).any (·.1) = false := by rfl) : PE X (.Call (.Name x p) (e :: es) [] pos) (tD Γ W (eCall g m)) := by
  refine PE.imp (pe_callB hc hg hm hv ha hn hdb he hpl) fun σ H Q ⟨G, ρ, s, h⟩ => ⟨G, ρ, s, (post_bind.mp h).imp (fun d ρ1 h1 v G1 H1 x1 r1 => ?_) fun c ρ' e => e⟩
  obtain ⟨z, hz, q⟩ := opt_post h1
  exact hr G1 H1 v d z Q x1.sr.sub r1 hz fun w G3 H3 x r3 => q w G3 H3 (x1.tr (x1.sr.ext x)) r3
theorem de_callTy {x : Str} {p : Pos} {e : Expr} {es : List Expr} {T : String} {r : List V → Hp → VK → Prop} {g : List D → Option D} {m : M (List D)} (hc : CallR X (.type T) r) (hr : RNP Γ.K r g) (hg : Gl X x) (hm : X.mg x = none) (hv : bootBuiltins x = some (.type T))
    (ha : PA X (e :: es) (tDs Γ W m)) (hn : x ≠ "__name__" := by decide) (hdb : (x == ("__debug__" : Str)) = false := by decide)
    (he : starEach (e :: es) X.env = (false, eval e X.env) :: starEach es X.env := by rfl) (hpl : (backTo pos (starEach es X.env)).any (·.1) = false := by rfl) : PE X (.Call (.Name x p) (e :: es) [] pos) (tD Γ W (eCall g m)) := by
  refine PE.imp (pe_callTy hc hg hm hv ha hn hdb he hpl) fun σ H Q ⟨G, ρ, s, h⟩ => ⟨G, ρ, s, (post_bind.mp h).imp (fun d ρ1 h1 v G1 H1 x1 r1 => ?_) fun c ρ' e => e⟩
  obtain ⟨z, hz, q⟩ := opt_post h1
  exact hr G1 H1 v d z Q x1.sr.sub r1 hz fun w G3 H3 x r3 => q w G3 H3 (x1.tr (x1.sr.ext x)) r3

/-! ### displays -/
def eTup (m : M (List D)) : M D := m.bind fun ds => if ds.length ≤ 16777216 then M.ret (.tuple ds) else M.fail
def oLst (m : M (List D)) : M OC := m.bind fun ds => if ds.length ≤ 16777216 then M.ret (.lst ds) else M.fail
theorem size_line {n : Nat} (h : n ≤ 16777216) : n ≤ sizeLine := by rw [sizeLine_eq]; exact h
theorem ite_post {α : Type} {c : Prop} [Decidable c] {m : M α} {ρ : Rho} {P : α → Rho → Prop} {E : Exc → Rho → Prop} (h : ((if c then m else M.fail) ρ).Post P E) : c ∧ (m ρ).Post P E := by
  by_cases q : c
  · rw [if_pos q] at h; exact ⟨q, h⟩
  · rw [if_neg q] at h; exact h.elim
theorem de_tup {es : List Expr} {k : Nat} {m : M (List D)} (h : PA X es (tDs Γ W m)) : PE X (.Tuple es k pos) (tD Γ W (eTup m)) := by
  refine PE.imp (pe_tup h) fun σ H Q ⟨G, ρ, s, h⟩ => ⟨G, ρ, s, (post_bind.mp h).imp (fun d ρ1 h1 v G1 H1 x1 r1 => ?_) fun c ρ' e => e⟩
  obtain ⟨hl, q⟩ := ite_post h1
  refine ⟨size_line (by rw [r1.length]; exact hl), fun p np => ?_⟩
  have x2 := Ext0.new (o := .tup v) x1.sr.sub np
  exact q _ _ _ (x1.tr (x1.sr.ext x2)) (.tup upd_same (r1.mono x2.g))
theorem do_lst {es : List Expr} {m : M (List D)} (h : PA X es (tDs Γ W m)) : PE X (.List es pos) (tO Γ W (oLst m)) := by
  refine PE.imp (pe_lst h) fun σ H Q ⟨G, ρ, s, h⟩ => ⟨G, ρ, s, (post_bind.mp h).imp (fun d ρ1 h1 v G1 H1 x1 r1 => ?_) fun c ρ' e => e⟩
  obtain ⟨hl, q⟩ := ite_post h1
  refine ⟨size_line (by rw [r1.length]; exact hl), fun p np => ?_⟩
  have x2 := Ext0.newH (G := G1) (o := .lst v) x1.sr.sub np
  have st := x1.tr (x1.sr.ext x2)
  have hno : ¬ Ow σ ρ1 p := fun ⟨i, c, e1, e2⟩ => by
    obtain ⟨a, u, f1, f2, f3, f4⟩ := x1.sr.own e1
    rw [e2] at f1
    cases f1
    rw [np] at f3; cases f3
  refine q _ _ _ st ⟨p, .lst v, rfl, x1.sr.sub.none np, upd_same, .lst r1, hno, ?_⟩
  by_cases z : Ow σ ρ p
  · exact .inl z
  · right
    cases e : H p with
    | none => rfl
    | some o => rw [x1.fr.keep p o e z] at np; cases np
/-- a fresh list, frozen at once -/
def ofO (m : M OC) : M D := m.bind fun c => match c with
  | .lst ds => M.ret (.list ds)
  | .dK [] => M.ret (.dict [])
  | _ => M.fail
theorem Stp.own_freeze {K : PySem.W.Frag} {G H G1 H1 : Hp} {σ : St} {ρ ρ1 : Rho} {σ1 : St} (x : Stp K G H σ ρ G1 H1 σ1 ρ1) {p : Addr} {u : HO} (g : G1 p = none) (h : H1 p = some u) (n : ¬ Ow σ1 ρ1 p) (f : Ow σ ρ p ∨ H p = none) :
    Stp K G H σ ρ (upd G1 p u) H1 σ1 ρ1 := by
  have sub : Sub G1 (upd G1 p u) := Sub.upd g
  refine ⟨⟨fun b o e => ?_, x.sr.len, fun j t e => ?_, x.sr.sep⟩, ⟨x.fr.ext.tr sub, x.fr.keep, fun b o e g' n' => ?_⟩, x.ow⟩
  · by_cases q : b = p
    · subst q; rw [upd_same] at e; cases e; exact h
    · rw [upd_ne q] at e; exact x.sr.sub b o e
  · have z := x.sr.ok j t e
    cases t with
    | un => trivial
    | ex a => exact z
    | fz d => obtain ⟨v, x1, x2⟩ := z; exact ⟨v, x1, x2.mono sub⟩
    | own c =>
      obtain ⟨b, u, x1, x2, x3, x4⟩ := z
      refine ⟨b, u, x1, ?_, x3, x4.mono sub⟩
      rw [upd_ne]
      · exact x2
      · intro z
        subst z
        exact n ⟨j, c, e, x1⟩
  · rw [upd_ne]
    · exact x.fr.nog b o e g' n'
    · intro z
      subst z
      rcases f with f | f
      · exact n' f
      · rw [f] at e; cases e
theorem de_own {e : Expr} {m : M OC} (h : PE X e (tO Γ W m)) : PE X e (tD Γ W (ofO m)) := by
  refine PE.imp h fun σ H Q ⟨G, ρ, s, h⟩ => ⟨G, ρ, s, (post_bind.mp h).imp (fun c ρ1 h1 v G1 H1 x1 r1 => ?_) fun c ρ' e => e⟩
  obtain ⟨p, u, rfl, g, hp, oc, n, f⟩ := r1
  have st := x1.own_freeze g hp n f
  cases oc with
  | lst q => exact h1 _ _ _ st (.lst upd_same (q.mono (Sub.upd g)))
  | dK q =>
    cases q with
    | nil => exact h1 _ _ _ st (.emp upd_same)
    | cons _ _ => exact h1.elim
  | dT q => exact h1.elim
  | dN q => exact h1.elim

/-! ### and, or, not, if-else -/
def eAnd (ma mb : M D) : M D := ma.bind fun x => match x with
  | .bool true => mb
  | .bool false => M.ret (.bool false)
  | _ => M.fail
def eOr (ma mb : M D) : M D := ma.bind fun x => match x with
  | .bool true => M.ret (.bool true)
  | .bool false => mb
  | _ => M.fail
def bAnd (ma mb : M Bool) : M Bool := ma.bind fun x => if x then mb else M.ret false
def bOr (ma mb : M Bool) : M Bool := ma.bind fun x => if x then M.ret true else mb
def bNot (ma : M Bool) : M Bool := ma.bind fun x => M.ret (!x)
def eIf (mc : M Bool) (ma mb : M D) : M D := mc.bind fun x => if x then ma else mb
def oIf (mc : M Bool) (ma mb : M OC) : M OC := mc.bind fun x => if x then ma else mb
def eNot (ma : M D) : M D := ma.bind fun x => match x with
  | .bool b => M.ret (.bool !b)
  | _ => M.fail
variable {a b : Expr} {rest : List Expr} {ma mb : M D} {na nb : M Bool}
theorem de_one {op : BoolOp} (h : PE X a (tD Γ W ma)) : PE X (.BoolOp op [a] pos) (tD Γ W ma) := pe_one h
theorem de_and (ha : PE X a (tD Γ W ma)) (hb : PE X (.BoolOp .And (b :: rest) pos) (tD Γ W mb)) : PE X (.BoolOp .And (a :: b :: rest) pos) (tD Γ W (eAnd ma mb)) := by
  refine PE.imp (pe_and ha hb) fun σ H Q ⟨G, ρ, s, h⟩ => ⟨G, ρ, s, (post_bind.mp h).imp (fun d ρ1 h1 v G1 H1 x1 r1 => ?_) fun c ρ' e => e⟩
  cases d <;> try exact h1.elim
  rename_i k
  cases r1
  refine ⟨k, rfl, ?_⟩
  cases k with
  | false => exact h1 _ _ _ x1 (.bl false)
  | true => exact ⟨G1, ρ1, x1.sr, Out.Post.imp h1 (fun e ρ2 h2 u G2 H2 x2 r2 => h2 _ _ _ (x1.tr x2) r2) fun c ρ' e => e.tr x1⟩
theorem de_or (ha : PE X a (tD Γ W ma)) (hb : PE X (.BoolOp .Or (b :: rest) pos) (tD Γ W mb)) : PE X (.BoolOp .Or (a :: b :: rest) pos) (tD Γ W (eOr ma mb)) := by
  refine PE.imp (pe_or ha hb) fun σ H Q ⟨G, ρ, s, h⟩ => ⟨G, ρ, s, (post_bind.mp h).imp (fun d ρ1 h1 v G1 H1 x1 r1 => ?_) fun c ρ' e => e⟩
  cases d <;> try exact h1.elim
  rename_i k
  cases r1
  refine ⟨k, rfl, ?_⟩
  cases k with
  | true => exact h1 _ _ _ x1 (.bl true)
  | false => exact ⟨G1, ρ1, x1.sr, Out.Post.imp h1 (fun e ρ2 h2 u G2 H2 x2 r2 => h2 _ _ _ (x1.tr x2) r2) fun c ρ' e => e.tr x1⟩
theorem de_not (ha : PE X a (tD Γ W ma)) : PE X (.UnaryOp .Not a pos) (tD Γ W (eNot ma)) := by
  refine PE.imp (pe_not ha) fun σ H Q ⟨G, ρ, s, h⟩ => ⟨G, ρ, s, (post_bind.mp h).imp (fun d ρ1 h1 v G1 H1 x1 r1 => ?_) fun c ρ' e => e⟩
  cases d <;> try exact h1.elim
  rename_i k
  cases r1
  exact ⟨k, rfl, h1 _ _ _ x1 (.bl !k)⟩
theorem dw_and1 (ha : PT X a (tT Γ W na)) : PW X (.BoolOp .And [a] pos) (tT Γ W na) := pw_and1 ha
theorem dw_or1 (ha : PT X a (tT Γ W na)) : PW X (.BoolOp .Or [a] pos) (tT Γ W na) := pw_or1 ha
theorem dw_and (ha : PT X a (tT Γ W na)) (hb : PW X (.BoolOp .And (b :: rest) pos) (tT Γ W nb)) : PW X (.BoolOp .And (a :: b :: rest) pos) (tT Γ W (bAnd na nb)) := by
  refine PW.imp (pw_and ha hb) fun σ H Q ⟨G, ρ, s, h⟩ => ⟨G, ρ, s, (post_bind.mp h).imp (fun k ρ1 h1 G1 H1 x1 => ?_) fun c ρ' e => e⟩
  cases k with
  | false => exact h1 _ _ x1
  | true => exact ⟨G1, ρ1, x1.sr, Out.Post.imp h1 (fun e ρ2 h2 G2 H2 x2 => h2 _ _ (x1.tr x2)) fun c ρ' e => e.tr x1⟩
theorem dw_or (ha : PT X a (tT Γ W na)) (hb : PW X (.BoolOp .Or (b :: rest) pos) (tT Γ W nb)) : PW X (.BoolOp .Or (a :: b :: rest) pos) (tT Γ W (bOr na nb)) := by
  refine PW.imp (pw_or ha hb) fun σ H Q ⟨G, ρ, s, h⟩ => ⟨G, ρ, s, (post_bind.mp h).imp (fun k ρ1 h1 G1 H1 x1 => ?_) fun c ρ' e => e⟩
  cases k with
  | true => exact h1 _ _ x1
  | false => exact ⟨G1, ρ1, x1.sr, Out.Post.imp h1 (fun e ρ2 h2 G2 H2 x2 => h2 _ _ (x1.tr x2)) fun c ρ' e => e.tr x1⟩
theorem dt_w (h : PW X a (tT Γ W na)) : PT X a (tT Γ W na) := h.pt
theorem dt_not (ha : PT X a (tT Γ W na)) : PT X (.UnaryOp .Not a pos) (tT Γ W (bNot na)) := by
  refine PT.imp (pt_not ha) fun σ H Q ⟨G, ρ, s, h⟩ => ⟨G, ρ, s, (post_bind.mp h).imp (fun k ρ1 h1 G1 H1 x1 => h1 _ _ x1) fun c ρ' e => e⟩
theorem de_if {c : Expr} (hc : PT X c (tT Γ W na)) (ha : PE X a (tD Γ W ma)) (hb : PE X b (tD Γ W mb)) : PE X (.IfExp c a b pos) (tD Γ W (eIf na ma mb)) := by
  refine PE.imp (pe_ifExp hc ha hb) fun σ H Q ⟨G, ρ, s, h⟩ => ⟨G, ρ, s, (post_bind.mp h).imp (fun k ρ1 h1 G1 H1 x1 => ?_) fun c ρ' e => e⟩
  cases k <;> exact ⟨G1, ρ1, x1.sr, Out.Post.imp h1 (fun e ρ2 h2 u G2 H2 x2 r2 => h2 _ _ _ (x1.tr x2) r2) fun c ρ' e => e.tr x1⟩
/-- a bool as a test -/
theorem dt_val (h : PE X a (tD Γ W ma)) (he : ∀ whole, isTrue a X.env whole = (do let v ← whole; standAt a.pos; holding [v] (truthy v)) := by intro _; rfl) : PT X a (tT Γ W (asB ma)) := by
  refine PT.imp (pt_val h he) fun σ H Q ⟨G, ρ, s, h⟩ => ⟨G, ρ, s, (asB_post h).imp (fun d ρ1 ⟨k, ek, h1⟩ v G1 H1 x1 r1 => ?_) fun c ρ' e => e⟩
  subst ek
  cases r1
  exact ⟨k, rfl, h1 _ _ x1⟩
end
end DL

/-! DLc: statements, targets, loops, comprehensions. -/
namespace DL
open PySem PySem.Spec L2

inductive Flw where
  | next | brk | cont
  | ret (r : Slot)
def RvOk (K : PySem.W.Frag) (G H : Hp) (σ : St) (ρ : Rho) (G' H' : Hp) (σ' : St) (ρ' : Rho) (v : V) : Slot → Prop
  | .un => False
  | .ex _ => False
  | .fz d => Rp K G' v d
  | .own c => Free K G H σ ρ G' H' σ' ρ' v c
abbrev Kept (P : List Nat) (σ σ' : St) : Prop := ∀ i ∈ P, σ'[i]? = σ[i]?
def EWs (Γ : Gm) (W : WX) (P : List Nat) (G H : Hp) (σ : St) (ρ : Rho) : Exc → Rho → Prop := fun c ρ' =>
  ∀ cls dx σ' G' H', Stp Γ.K G H σ ρ G' H' σ' ρ' → Kept P σ σ' → ExcOk Γ G' c cls dx → W cls dx σ' H'
def FlwOk (K : PySem.W.Frag) (G H : Hp) (σ : St) (ρ : Rho) (G' H' : Hp) (σ' : St) (ρ' : Rho) (D : Ends) : Flw → Prop
  | .next => D.nx σ' H'
  | .brk => D.bk σ' H'
  | .cont => D.ct σ' H'
  | .ret r => ∀ v, RvOk K G H σ ρ G' H' σ' ρ' v r → D.rt v H'
def tS (Γ : Gm) (W : WX) (P : List Nat) (m : M Flw) : TS := fun D σ H => ∃ G ρ, SR Γ.K G H σ ρ ∧
  (m ρ).Post (fun f ρ' => ∀ σ' G' H', Stp Γ.K G H σ ρ G' H' σ' ρ' → Kept P σ σ' → FlwOk Γ.K G H σ ρ G' H' σ' ρ' D f) (EWs Γ W P G H σ ρ)
/-- a value of a call: frozen, or an own object -/
def tR (Γ : Gm) (W : WX) (m : M Slot) : TE := fun σ H Q => ∃ G ρ, SR Γ.K G H σ ρ ∧
  (m ρ).Post (fun r ρ' => ∀ v G' H', Stp Γ.K G H σ ρ G' H' σ ρ' → RvOk Γ.K G H σ ρ G' H' σ ρ' v r → Q v H') (EW Γ W G H σ ρ)
section
variable {K : PySem.W.Frag} {Γ : Gm} {W : WX} {P : List Nat} {G H G1 H1 G2 H2 : Hp} {σ σ1 σ2 : St} {ρ ρ1 ρ2 : Rho}
theorem EWs.ew {c : Exc} {ρ' : Rho} (h : EWs Γ W P G H σ ρ c ρ') : EW Γ W G H σ ρ c ρ' := fun cls dx G' H' x e => h cls dx σ G' H' x (fun _ _ => rfl) e
theorem EWs.tr (x : Stp Γ.K G H σ ρ G1 H1 σ1 ρ1) (k : Kept P σ σ1) {c : Exc} {ρ' : Rho} (h : EWs Γ W P G H σ ρ c ρ') : EWs Γ W P G1 H1 σ1 ρ1 c ρ' :=
  fun cls dx σ' G' H' y k' e => h cls dx σ' G' H' (x.tr y) (fun i hi => (k' i hi).trans (k i hi)) e
theorem Stp.was (x : Stp K G H σ ρ G1 H1 σ1 ρ1) {a : Addr} (h : Ow σ1 ρ1 a ∨ H1 a = none) : Ow σ ρ a ∨ H a = none := by
  rcases h with z | z
  · exact x.ow a z
  · by_cases q : Ow σ ρ a
    · exact .inl q
    · right
      cases e : H a with
      | none => exact Eq.refl _
      | some o => rw [x.fr.keep a o e q] at z; cases z
theorem Free.tr (x : Stp K G H σ ρ G1 H1 σ1 ρ1) {v : V} {c : OC} (h : Free K G1 H1 σ1 ρ1 G2 H2 σ2 ρ2 v c) : Free K G H σ ρ G2 H2 σ2 ρ2 v c := by
  obtain ⟨a, u, e1, e2, e3, e4, e5, e6⟩ := h
  exact ⟨a, u, e1, e2, e3, e4, e5, x.was e6⟩
theorem RvOk.tr (x : Stp K G H σ ρ G1 H1 σ1 ρ1) {v : V} {r : Slot} (h : RvOk K G1 H1 σ1 ρ1 G2 H2 σ2 ρ2 v r) : RvOk K G H σ ρ G2 H2 σ2 ρ2 v r := by
  cases r with
  | un => exact h
  | ex _ => exact h
  | fz d => exact h
  | own c => exact Free.tr x h
theorem FlwOk.tr (x : Stp K G H σ ρ G1 H1 σ1 ρ1) {D : Ends} {f : Flw} (h : FlwOk K G H σ ρ G2 H2 σ2 ρ2 D f) : FlwOk K G1 H1 σ1 ρ1 G2 H2 σ2 ρ2 D f := by
  cases f with
  | ret r => exact fun v q => h v (RvOk.tr x q)
  | _ => exact h
/-- a slot is given a frozen value -/
theorem SR.setF (s : SR K G H σ ρ) {i : Nat} (hi : i < ρ.length) {v : V} {d : D} (r : Rp K G v d) : Stp K G H σ ρ G H (σ.set i (some v)) (ρ.set i (.fz d)) := by
  have back : ∀ j a, OwnAt (σ.set i (some v)) (ρ.set i (.fz d)) j a → OwnAt σ ρ j a := fun j a ⟨c, e1, e2⟩ => by
    by_cases q : i = j
    · subst q
      rw [List.getElem?_set_self hi] at e1; cases e1
    · rw [List.getElem?_set_ne q] at e1 e2
      exact ⟨c, e1, e2⟩
  refine ⟨⟨s.sub, by rw [List.length_set, List.length_set]; exact s.len, fun j t e => ?_, fun j k a x y => s.sep j k a (back j a x) (back k a y)⟩, Fr.rfl, fun a ⟨j, x⟩ => .inl ⟨j, back j a x⟩⟩
  by_cases q : i = j
  · subst q
    rw [List.getElem?_set_self hi] at e
    cases e
    exact ⟨v, by rw [List.getElem?_set_self (by rw [s.len]; exact hi)], r⟩
  · rw [List.getElem?_set_ne q] at e ⊢
    exact s.ok j t e
/-- a slot is given an own object -/
theorem SR.setO (s : SR K G H σ ρ) {i : Nat} (hi : i < ρ.length) {a : Addr} {u : HO} {c : OC} (g : G a = none) (h : H a = some u) (oc : OcOk K G c u) (n : ¬ Ow σ ρ a) :
    SR K G H (σ.set i (some (.ref a))) (ρ.set i (.own c)) ∧ ∀ b, Ow (σ.set i (some (.ref a))) (ρ.set i (.own c)) b → b = a ∨ Ow σ ρ b := by
  have hs : i < σ.length := by rw [s.len]; exact hi
  have back : ∀ j b, OwnAt (σ.set i (some (.ref a))) (ρ.set i (.own c)) j b → (i = j ∧ b = a) ∨ (i ≠ j ∧ OwnAt σ ρ j b) := fun j b ⟨c', e1, e2⟩ => by
    by_cases q : i = j
    · subst q
      rw [List.getElem?_set_self hs] at e2
      cases e2
      exact .inl ⟨rfl, rfl⟩
    · rw [List.getElem?_set_ne q] at e1 e2
      exact .inr ⟨q, c', e1, e2⟩
  refine ⟨⟨s.sub, by rw [List.length_set, List.length_set]; exact s.len, fun j t e => ?_, fun j k b x y => ?_⟩, fun b ⟨j, x⟩ => ?_⟩
  · by_cases q : i = j
    · subst q
      rw [List.getElem?_set_self hi] at e
      cases e
      exact ⟨a, u, by rw [List.getElem?_set_self hs], g, h, oc⟩
    · rw [List.getElem?_set_ne q] at e ⊢
      exact s.ok j t e
  · rcases back j b x with ⟨e1, e2⟩ | ⟨e1, e2⟩
    · rcases back k b y with ⟨f1, f2⟩ | ⟨f1, f2⟩
      · exact e1.symm.trans f1
      · subst e2; exact (n ⟨k, f2⟩).elim
    · rcases back k b y with ⟨f1, f2⟩ | ⟨f1, f2⟩
      · subst f2; exact (n ⟨j, e2⟩).elim
      · exact s.sep j k b e2 f2
  · rcases back j b x with ⟨e1, e2⟩ | ⟨e1, e2⟩
    · exact .inl e2
    · exact .inr ⟨j, e2⟩
theorem kept_set {i : Nat} {o : Option V} (h : i ∉ P) : Kept P σ (σ.set i o) := fun j hj => by
  rw [List.getElem?_set_ne]
  intro e; subst e; exact h hj
end

/-! ### small statements -/
def sNext : M Flw := M.ret .next
def sSeq (a b : M Flw) : M Flw := a.bind fun f => match f with
  | .next => b
  | f => M.ret f
def sSet (i : Nat) (m : M D) : M Flw := m.bind fun d ρ => if i < ρ.length then .ok .next (ρ.set i (.fz d)) else .bad
def sSetO (i : Nat) (m : M OC) : M Flw := m.bind fun c ρ => if i < ρ.length then .ok .next (ρ.set i (.own c)) else .bad
def sDrop (m : M D) : M Flw := m.bind fun _ => M.ret .next
def sRet (m : M D) : M Flw := m.bind fun d => M.ret (.ret (.fz d))
def sRetO (m : M OC) : M Flw := m.bind fun c => M.ret (.ret (.own c))
def sIf (c : M Bool) (a b : M Flw) : M Flw := c.bind fun x => if x then a else b
/-- return of a slot's own object -/
def sRetV (i : Nat) : M Flw := fun ρ => match ρ[i]? with
  | some (.own c) => .ok (.ret (.own c)) (ρ.set i .un)
  | _ => .bad
section
variable {X : Cx} {Γ : Gm} {W : WX} {P : List Nat} {pos : Pos} {e : Expr} {st : Stmt} {rest : List Stmt} {m n : M Flw}
theorem dss_nil : PSs X [] (tS Γ W P sNext) := PSs.imp pss_nil fun D σ H ⟨G, ρ, s, h⟩ => h σ G H (Stp.rfl s) (fun _ _ => rfl)
theorem dss_cons (h1 : PS X st (tS Γ W P m)) (h2 : PSs X rest (tS Γ W P n)) : PSs X (st :: rest) (tS Γ W P (sSeq m n)) := by
  refine PSs.imp (pss_cons h1 h2) fun D σ H ⟨G, ρ, s, h⟩ => ⟨G, ρ, s, (post_bind.mp h).imp (fun f ρ1 q σ1 G1 H1 x1 k1 => ?_) fun _ _ e => e⟩
  cases f with
  | next => exact ⟨G1, ρ1, x1.sr, Out.Post.imp q (fun f ρ2 q σ2 G2 H2 x2 k2 => (q σ2 G2 H2 (x1.tr x2) fun i hi => (k2 i hi).trans (k1 i hi)).tr x1) fun c ρ' e => e.tr x1 k1⟩
  | brk => exact q σ1 G1 H1 x1 k1
  | cont => exact q σ1 G1 H1 x1 k1
  | ret r => exact q σ1 G1 H1 x1 k1
theorem dss_one (h1 : PS X st (tS Γ W P m)) : PSs X [st] (tS Γ W P m) := pss_one h1
theorem ds_pass : PS X (.Pass pos) (tS Γ W P sNext) := PS.imp ps_pass fun D σ H ⟨G, ρ, s, h⟩ => h σ G H (Stp.rfl s) (fun _ _ => rfl)
theorem ds_break : PS X (.Break pos) (tS Γ W P (M.ret .brk)) := PS.imp ps_break fun D σ H ⟨G, ρ, s, h⟩ => h σ G H (Stp.rfl s) (fun _ _ => rfl)
theorem ds_continue : PS X (.Continue pos) (tS Γ W P (M.ret .cont)) := PS.imp ps_continue fun D σ H ⟨G, ρ, s, h⟩ => h σ G H (Stp.rfl s) (fun _ _ => rfl)
theorem ds_never : PS X st (tS Γ W P M.fail) := PS.imp ps_never fun D σ H ⟨G, ρ, s, h⟩ => h.elim
theorem dss_never : PSs X rest (tS Γ W P M.fail) := PSs.imp pss_never fun D σ H ⟨G, ρ, s, h⟩ => h.elim
theorem set_post {i : Nat} {σ : St} {ρ ρ' : Rho} {Q : Flw → Rho → Prop} {E : Exc → Rho → Prop} {t : Slot} (h : Out.Post (if i < ρ.length then Out.ok Flw.next (ρ.set i t) else .bad) Q E) : i < ρ.length ∧ Q .next (ρ.set i t) := by
  by_cases q : i < ρ.length
  · rw [if_pos q] at h; exact ⟨q, h⟩
  · rw [if_neg q] at h; exact h.elim
theorem ds_set {i : Nat} {x : Str} {pos' : Pos} {me : M D} (hN : X.N.Nodup) (hi : X.N[i]? = some x) (hx : Loc X.env.scope x) (he : PE X e (tD Γ W me)) (hp : i ∉ P) (hs : swapsWith e (some (.Name x pos')) pos.line X.env = pure false := by rfl)
    (hf : X.fn x = true ∨ X.env.scope.names.lookup x = some .local := by first | exact .inl rfl | exact .inr rfl | assumption) : PS X (.Assign [.Name x pos'] e pos) (tS Γ W P (sSet i me)) := by
  refine PS.imp (ps_set hN hi hx he hs hf) fun D σ H ⟨G, ρ, s, h⟩ => ⟨G, ρ, s, (post_bind.mp h).imp (fun d ρ1 h1 v G1 H1 x1 r1 => ?_) fun c ρ' e => e.ew⟩
  obtain ⟨hl, q⟩ := set_post (σ := σ) (ρ' := ρ) h1
  exact q _ G1 H1 (x1.tr (x1.sr.setF hl r1)) (kept_set hp)
theorem ds_setO {i : Nat} {x : Str} {pos' : Pos} {me : M OC} (hN : X.N.Nodup) (hi : X.N[i]? = some x) (hx : Loc X.env.scope x) (he : PE X e (tO Γ W me)) (hp : i ∉ P) (hs : swapsWith e (some (.Name x pos')) pos.line X.env = pure false := by rfl)
    (hf : X.fn x = true ∨ X.env.scope.names.lookup x = some .local := by first | exact .inl rfl | exact .inr rfl | assumption) : PS X (.Assign [.Name x pos'] e pos) (tS Γ W P (sSetO i me)) := by
  refine PS.imp (ps_set hN hi hx he hs hf) fun D σ H ⟨G, ρ, s, h⟩ => ⟨G, ρ, s, (post_bind.mp h).imp (fun c ρ1 h1 v G1 H1 x1 r1 => ?_) fun c ρ' e => e.ew⟩
  obtain ⟨hl, q⟩ := set_post (σ := σ) (ρ' := ρ) h1
  obtain ⟨a, u, rfl, g, hu, oc, n, f⟩ := r1
  obtain ⟨sr, ow⟩ := x1.sr.setO hl g hu oc n
  refine q _ G1 H1 ⟨sr, x1.fr, fun b z => ?_⟩ (kept_set hp)
  rcases ow b z with z | z
  · subst z; exact f
  · exact x1.ow b z
theorem ds_drop {me : M D} (he : PE X e (tD Γ W me)) (hs : swapsWith e none pos.line X.env = pure false := by rfl) : PS X (.Expr e pos) (tS Γ W P (sDrop me)) := by
  refine PS.imp (ps_expr he hs) fun D σ H ⟨G, ρ, s, h⟩ => ⟨G, ρ, s, (post_bind.mp h).imp (fun d ρ1 h1 v G1 H1 x1 r1 => h1 σ G1 H1 x1 fun _ _ => rfl) fun c ρ' e => e.ew⟩
theorem ds_ret {me : M D} (he : PE X e (tD Γ W me)) : PS X (.Return (some e) pos) (tS Γ W P (sRet me)) := by
  refine PS.imp (ps_ret he) fun D σ H ⟨G, ρ, s, h⟩ => ⟨G, ρ, s, (post_bind.mp h).imp (fun d ρ1 h1 v G1 H1 x1 r1 => h1 σ G1 H1 x1 (fun _ _ => rfl) v r1) fun c ρ' e => e.ew⟩
theorem ds_retO {me : M OC} (he : PE X e (tO Γ W me)) : PS X (.Return (some e) pos) (tS Γ W P (sRetO me)) := by
  refine PS.imp (ps_ret he) fun D σ H ⟨G, ρ, s, h⟩ => ⟨G, ρ, s, (post_bind.mp h).imp (fun d ρ1 h1 v G1 H1 x1 r1 => h1 σ G1 H1 x1 (fun _ _ => rfl) v r1) fun c ρ' e => e.ew⟩
theorem ds_if {c : Expr} {a b : List Stmt} {mc : M Bool} (hc : PT X c (tT Γ W mc)) (ha : PSs X a (tS Γ W P m)) (hb : PSs X b (tS Γ W P n)) : PS X (.If c a b pos) (tS Γ W P (sIf mc m n)) := by
  refine PS.imp (ps_if hc ha hb) fun D σ H ⟨G, ρ, s, h⟩ => ⟨G, ρ, s, (post_bind.mp h).imp (fun k ρ1 h1 G1 H1 x1 => ?_) fun c ρ' e => e.ew⟩
  cases k <;> exact ⟨G1, ρ1, x1.sr, Out.Post.imp h1 (fun f ρ2 q σ2 G2 H2 x2 k2 => (q σ2 G2 H2 (x1.tr x2) k2).tr x1) fun c ρ' e => e.tr x1 fun _ _ => rfl⟩
/-- a slot gives its object away -/
theorem SR.give {K : PySem.W.Frag} {G H : Hp} {σ : St} {ρ : Rho} {i : Nat} {c : OC} (s : SR K G H σ ρ) (h : ρ[i]? = some (.own c)) :
    ∃ v, σ[i]? = some (some v) ∧ Stp K G H σ ρ G H σ (ρ.set i .un) ∧ Free K G H σ ρ G H σ (ρ.set i .un) v c := by
  obtain ⟨a, u, e1, e2, e3, e4⟩ := s.own h
  have hi : i < ρ.length := by
    cases Nat.lt_or_ge i ρ.length with
    | inl z => exact z
    | inr z => rw [List.getElem?_eq_none z] at h; cases h
  have back : ∀ j b, OwnAt σ (ρ.set i .un) j b → i ≠ j ∧ OwnAt σ ρ j b := fun j b ⟨c', f1, f2⟩ => by
    by_cases q : i = j
    · subst q
      rw [List.getElem?_set_self hi] at f1; cases f1
    · rw [List.getElem?_set_ne q] at f1
      exact ⟨q, c', f1, f2⟩
  refine ⟨.ref a, e1, ⟨⟨s.sub, by rw [List.length_set]; exact s.len, fun j t f => ?_, fun j k b x y => s.sep j k b (back j b x).2 (back k b y).2⟩, Fr.rfl, fun b ⟨j, x⟩ => .inl ⟨j, (back j b x).2⟩⟩,
    a, u, rfl, e2, e3, e4, fun ⟨j, x⟩ => ?_, .inl ⟨i, c, h, e1⟩⟩
  · by_cases q : i = j
    · subst q
      rw [List.getElem?_set_self hi] at f
      cases f
      trivial
    · rw [List.getElem?_set_ne q] at f
      exact s.ok j t f
  · obtain ⟨q, y⟩ := back j a x
    exact q (s.sep i j a ⟨c, h, e1⟩ y)
theorem ds_retV {i : Nat} {x : Str} {pos' : Pos} (he : PE X (.Name x pos') (tVar i)) : PS X (.Return (some (.Name x pos')) pos) (tS Γ W P (sRetV i)) := by
  refine PS.imp (ps_ret he) fun D σ H ⟨G, ρ, s, h⟩ => ?_
  unfold sRetV at h
  split at h
  · rename_i c e
    obtain ⟨v, e1, x, f⟩ := s.give e
    exact ⟨v, e1, h σ G H x (fun _ _ => rfl) v f⟩
  · exact h.elim
end

/-! ### targets -/
inductive Tg where
  | nm (i : Nat)
  | tp (ts : List Tg)
mutual
def Tg.ix : Tg → List Nat
  | .nm i => [i]
  | .tp ts => Tg.ixs ts
def Tg.ixs : List Tg → List Nat
  | [] => []
  | t :: ts => t.ix ++ Tg.ixs ts
end
mutual
def Tg.set : Tg → D → Rho → Option Rho
  | .nm i, d, ρ => if i < ρ.length then some (ρ.set i (.fz d)) else none
  | .tp ts, d, ρ => match d with
    | .tuple ds => if ds.length = ts.length then Tg.setAll ts ds ρ else none
    | _ => none
def Tg.setAll : List Tg → List D → Rho → Option Rho
  | [], [], ρ => some ρ
  | t :: ts, d :: ds, ρ => (t.set d ρ).bind fun ρ' => Tg.setAll ts ds ρ'
  | _, _, _ => none
end
def tG (Γ : Gm) (g : Tg) : TG := fun v σ H Q => ∃ G ρ d ρ', SR Γ.K G H σ ρ ∧ Rp Γ.K G v d ∧ g.set d ρ = some ρ' ∧ ∀ σ', Stp Γ.K G H σ ρ G H σ' ρ' → (∀ i, i ∉ g.ix → σ'[i]? = σ[i]?) → Q σ' H
def tGs (Γ : Gm) (gs : List Tg) : TGs := fun vs σ H Q => ∃ G ρ ds ρ', SR Γ.K G H σ ρ ∧ RpAll Γ.K G vs ds ∧ Tg.setAll gs ds ρ = some ρ' ∧ ∀ σ', Stp Γ.K G H σ ρ G H σ' ρ' → (∀ i, i ∉ Tg.ixs gs → σ'[i]? = σ[i]?) → Q σ' H
theorem PGs.imp {X : Cx} {e : List Expr} {t t' : TGs} (h : PGs X e t) (k : ∀ v σ H Q, t' v σ H Q → t v σ H Q) : PGs X e t' := ⟨fun pins s σ H v u Q I r q => h.run pins s σ H v u Q I r (k _ _ _ _ q)⟩
section
variable {X : Cx} {Γ : Gm} {pos : Pos}
theorem dg_nm {i : Nat} {x : Str} (h : PG X (.Name x pos) (gName i)) : PG X (.Name x pos) (tG Γ (.nm i)) := by
  refine PG.imp h fun v σ H Q ⟨G, ρ, d, ρ', s, r, e, q⟩ => ?_
  unfold Tg.set at e
  split at e
  · rename_i hl
    cases e
    refine q _ (s.setF hl r) fun j hj => ?_
    rw [List.getElem?_set_ne]
    intro z; subst z
    exact hj (by simp [Tg.ix])
  · cases e
theorem dgs_nil : PGs X [] (tGs Γ []) := by
  refine PGs.imp pgs_nil fun vs σ H Q ⟨G, ρ, ds, ρ', s, r, e, q⟩ => ?_
  cases ds with
  | nil => cases r; cases e; exact ⟨rfl, q σ (Stp.rfl s) fun _ _ => rfl⟩
  | cons _ _ => cases e
theorem dgs_cons {e : Expr} {es : List Expr} {g : Tg} {gs : List Tg} (h1 : PG X e (tG Γ g)) (h2 : PGs X es (tGs Γ gs))
    (hs : (assignEach (e :: es) X.env).map (·.2) = assign e X.env :: (assignEach es X.env).map (·.2) := by rfl) : PGs X (e :: es) (tGs Γ (g :: gs)) := by
  refine PGs.imp (pgs_cons h1 h2 hs) fun vs σ H Q ⟨G, ρ, ds, ρ', s, r, e, q⟩ => ?_
  cases ds with
  | nil => cases e
  | cons d ds =>
    cases r with
    | cons ra rb =>
      unfold Tg.setAll at e
      cases e1 : g.set d ρ with
      | none => rw [e1] at e; cases e
      | some ρ1 =>
        rw [e1] at e
        refine ⟨_, _, rfl, G, ρ, d, ρ1, s, ra, e1, fun σ1 x1 k1 => ⟨G, ρ1, ds, ρ', x1.sr, rb, e, fun σ2 x2 k2 => q σ2 (x1.tr x2) fun i hi => ?_⟩⟩
        have hi' : i ∉ g.ix ∧ i ∉ Tg.ixs gs := by simpa [Tg.ixs] using hi
        exact (k2 i hi'.2).trans (k1 i hi'.1)
theorem dg_tp {es : List Expr} {k : Nat} {gs : List Tg} (hc : X.calm = true) (h : PGs X es (tGs Γ gs)) (hK : X.K = Γ.K := by rfl)
    (hn : (assignEach es X.env).length = gs.length := by rfl) (hst : (assignEach es X.env).findIdx? (·.1) = none := by rfl) : PG X (.Tuple es k pos) (tG Γ (.tp gs)) := by
  refine PG.imp (pg_tup (n := gs.length) hc h hn hst) fun v σ H Q ⟨G, ρ, d, ρ', s, r, e, q⟩ => ?_
  unfold Tg.set at e
  split at e
  · rename_i ds
    split at e
    · rename_i hl
      cases r with
      | tup rs ra => exact ⟨_, _, rfl, by rw [hK]; exact s.sub.seqT rs, ra.length.trans hl, G, ρ, ds, ρ', s, ra, e, fun σ' x k => q σ' x fun i hi => k i (by simpa [Tg.ix] using hi)⟩
    · cases e
  · cases e
end
def sAsgG (g : Tg) (m : M D) : M Flw := m.bind fun d ρ => match g.set d ρ with
  | some ρ' => .ok .next ρ'
  | none => .bad
section
variable {X : Cx} {Γ : Gm} {W : WX} {P : List Nat} {pos : Pos}
theorem ds_asg {tg e : Expr} {g : Tg} {me : M D} (he : PE X e (tD Γ W me)) (hg : PG X tg (tG Γ g)) (hp : ∀ i ∈ P, i ∉ g.ix) (hs : swapsWithSole [tg] e pos.line X.env = pure false := by rfl) (hw : swappedStores [tg] e X.env = pure none := by rfl)
    (h1 : (assignEach [tg] X.env).map (·.2) = [assign tg X.env] := by rfl) : PS X (.Assign [tg] e pos) (tS Γ W P (sAsgG g me)) := by
  refine PS.imp (ps_asg he hg hs hw h1) fun D σ H ⟨G, ρ, s, h⟩ => ⟨G, ρ, s, (post_bind.mp h).imp (fun d ρ1 h1 v G1 H1 x1 r1 => ?_) fun c ρ' e => e.ew⟩
  cases q : g.set d ρ1 with
  | none => simp only [q] at h1; exact h1.elim
  | some ρ2 =>
    simp only [q] at h1
    exact ⟨G1, ρ1, d, ρ2, x1.sr, r1, q, fun σ2 x2 k2 => h1 σ2 G1 H1 (x1.tr x2) fun i hi => k2 i (hp i hi)⟩
/-- a, b = x, y -/
def sPar (i j : Nat) (m : M (List D)) : M Flw := m.bind fun ds ρ => match ds with
  | [d, e] => if i < ρ.length ∧ j < ρ.length then .ok .next ((ρ.set i (.fz d)).set j (.fz e)) else .bad
  | _ => .bad
theorem ds_par {i j : Nat} {x y : Str} {a b : Expr} {m : M (List D)} {px py pt : Pos} {kt k2 pt2} (hc : X.calm = true) (hN : X.N.Nodup) (hi : X.N[i]? = some x) (hj : X.N[j]? = some y) (hij : i ≠ j)
    (hx : X.env.scope.names.lookup x = some .local) (hy : X.env.scope.names.lookup y = some .local) (ha : PA X [a, b] (tDs Γ W m)) (hp : i ∉ P) (hp2 : j ∉ P)
    (hw : swappedStores [.Tuple [.Name x px, .Name y py] kt pt] (.Tuple [a, b] k2 pt2) X.env = pure (some [x, y]))
    (hs : swapsWithSole [.Tuple [.Name x px, .Name y py] kt pt] (.Tuple [a, b] k2 pt2) pos.line X.env = pure false := by rfl) :
    PS X (.Assign [.Tuple [.Name x px, .Name y py] kt pt] (.Tuple [a, b] k2 pt2) pos) (tS Γ W P (sPar i j m)) := by
  refine PS.imp (ps_par hc hN hi hj hij hx hy ha hw hs) fun D σ H ⟨G, ρ, s, h⟩ => ⟨G, ρ, s, (post_bind.mp h).imp (fun ds ρ1 h1 vs G1 H1 x1 r1 => ?_) fun c ρ' e => e.ew⟩
  match ds, r1, h1 with
  | [], _, h1 => exact h1.elim
  | [_], _, h1 => exact h1.elim
  | _ :: _ :: _ :: _, _, h1 => exact h1.elim
  | [d, e], r1, h1 =>
    cases r1 with
    | cons ra rb =>
      cases rb with
      | cons rb rc =>
        cases rc
        by_cases hl : i < ρ1.length ∧ j < ρ1.length
        · simp only [if_pos hl] at h1
          have y1 := x1.sr.setF hl.1 ra
          have y2 := y1.sr.setF (i := j) (by rw [List.length_set]; exact hl.2) rb
          exact ⟨_, _, rfl, h1 _ G1 H1 ((x1.tr y1).tr y2) fun k hk => (kept_set (P := P) hp2 k hk).trans (kept_set (P := P) hp k hk)⟩
        · simp only [if_neg hl] at h1
          exact h1.elim
end

/-! ### what is walked -/
structure ItOk (K : PySem.W.Frag) (J : It) (ds : List D) (G0 : Hp) : Prop where
  sz : ds.length ≤ sizeLine
  at_ : ∀ i G H d, Sub G0 G → Sub G H → ds[i]? = some d → J.go i H ∧ ∀ x H', J.yld i H x H' → ∃ G', Ext0 G H G' H' ∧ Rp K G' x d
  fin : ∀ G H, Sub G0 G → Sub G H → J.stop ds.length H
def tI (Γ : Gm) (W : WX) (m : M (List D)) : TI := fun σ H R => ∃ G ρ, SR Γ.K G H σ ρ ∧
  (m ρ).Post (fun ds ρ' => ∀ J G' H', Stp Γ.K G H σ ρ G' H' σ ρ' → ItOk Γ.K J ds G' → R J H') (EW Γ W G H σ ρ)
def itD : D → Option (List D)
  | .list ds => some ds
  | .tuple ds => some ds
  | _ => none
def iSeq (m : M D) : M (List D) := m.bind fun d => M.opt (itD d)
theorem itOk_list {K : PySem.W.Frag} {a : Addr} {xs : List V} {ds : List D} {G0 : Hp} (h : G0 a = some (.lst xs)) (r : RpAll K G0 xs ds) (hz : xs.length ≤ sizeLine) : ItOk K (Itl K a) ds G0 where
  sz := by rw [← r.length]; exact hz
  at_ := fun i G H d s1 s2 e => by
    obtain ⟨v, e1, e2⟩ := r.getD e
    have q : SqL K H a xs := SqL.of (s2 _ _ (s1 _ _ h))
    exact ⟨⟨xs, v, q, e1⟩, fun x H' ⟨e3, e4⟩ => by
      subst e3
      have := e4 xs q
      rw [e1] at this
      cases this
      exact ⟨G, Ext0.rfl s2, e2.mono s1⟩⟩
  fin := fun G H s1 s2 => ⟨xs, SqL.of (s2 _ _ (s1 _ _ h)), by rw [r.length]; exact Nat.le_refl _⟩
theorem itOk_tup {K : PySem.W.Frag} {a : Addr} {xs : List V} {ds : List D} {G0 : Hp} (h : G0 a = some (.tup xs)) (r : RpAll K G0 xs ds) (hz : xs.length ≤ sizeLine) : ItOk K (Itt K a) ds G0 where
  sz := by rw [← r.length]; exact hz
  at_ := fun i G H d s1 s2 e => by
    obtain ⟨v, e1, e2⟩ := r.getD e
    have q : SqT K H a xs := s2.seqT (s1 _ _ h)
    exact ⟨⟨xs, v, q, e1⟩, fun x H' ⟨e3, e4⟩ => by
      subst e3
      have := e4 xs q
      rw [e1] at this
      cases this
      exact ⟨G, Ext0.rfl s2, e2.mono s1⟩⟩
  fin := fun G H s1 s2 => ⟨xs, s2.seqT (s1 _ _ h), by rw [r.length]; exact Nat.le_refl _⟩
section
variable {X : Cx} {Γ : Gm} {W : WX} {tg e : Expr} {m : M D}
theorem di_seq (he : PE X e (tD Γ W m)) (hK : X.K = Γ.K := by rfl) : PI X tg e (tI Γ W (iSeq m)) := by
  refine ⟨fun pins s σ H R I ⟨G, ρ, sr, h⟩ => ?_⟩
  have h' := post_bind.mp h
  refine thn (he.run pins s σ H (fun x H1 => ∃ G1 ρ1 d ds, Stp Γ.K G H σ ρ G1 H1 σ ρ1 ∧ Rp Γ.K G1 x d ∧ itD d = some ds ∧ ∀ J, ItOk Γ.K J ds G1 → R J H1) I ⟨G, ρ, sr, h'.imp (fun d ρ1 h1 v G1 H1 x1 r1 => ?_) fun _ _ e => e⟩)
    fun v s1 ⟨x, H1, I1, r1, G1, ρ1, d, ds, x1, rp, e, q⟩ => ?_
  · obtain ⟨ds, e1, q⟩ := opt_post h1
    exact ⟨G1, ρ1, d, ds, x1, r1, e1, fun J ok => q J G1 H1 x1 ok⟩
  · cases rp with
    | lst g ra =>
      cases e
      cases r1
      obtain ⟨its, rv, p, hz⟩ := I1.list (SqL.of (x1.sr.sub _ _ g))
      refine wpAny_pyIter_list p.isList ⟨s1.heap.objs.size, [s1.heap.objs.size], _, _, H1, rfl, I1.kept (t' := s1.toks) fun b o e => Heap.get?_push_of_some _ e, turn_list _ _, ⟨_, Heap.get?_push_size _ rfl, rfl, rfl⟩, fun b hb => ?_, ?_⟩
      · have e : b = s1.heap.objs.size := by simpa using hb
        subst e
        exact I1.fpOk (Nat.le_refl _) (I1.hok.fresh (Nat.le_refl _))
      · rw [hK]; exact q _ (itOk_list g ra hz)
    | tup g ra =>
      cases e
      cases r1
      obtain ⟨its, rv, p, hz⟩ := I1.tuple (by rw [hK]; exact x1.sr.sub.seqT g)
      refine wpAny_pyIter_tuple (show s1.heap.IsTuple _ its.toArray from p) ⟨s1.heap.objs.size, [s1.heap.objs.size], _, _, H1, rfl, I1.kept (t' := s1.toks) fun b o e => Heap.get?_push_of_some _ e, turn_tuple _ _, ⟨_, Heap.get?_push_size _ rfl, rfl, rfl⟩, fun b hb => ?_, ?_⟩
      · have e : b = s1.heap.objs.size := by simpa using hb
        subst e
        exact I1.fpOk (Nat.le_refl _) (I1.hok.fresh (Nat.le_refl _))
      · rw [hK]; exact q _ (itOk_tup g ra hz)
    | non => cases e
    | bl _ => cases e
    | int _ => cases e
    | str _ => cases e
    | emp _ => cases e
    | scr _ _ => cases e
end
/-- lo, lo + 1, .. -/
def rngD (lo hi : Int) : Option (List D) :=
  if -(2 ^ 62) ≤ lo ∧ lo < 2 ^ 62 ∧ -(2 ^ 62) ≤ hi ∧ hi < 2 ^ 62 ∧ (hi - lo).toNat ≤ 16777216 then some ((List.range (hi - lo).toNat).map fun (i : Nat) => PyData.int (lo + (i : Int))) else none
def rng1 : List D → Option (List D)
  | [.int hi] => rngD 0 hi
  | _ => none
def rng2 : List D → Option (List D)
  | [.int lo, .int hi] => rngD lo hi
  | _ => none
theorem itOk_rng {K : PySem.W.Frag} {lo hi : Int} {ds : List D} {G0 : Hp} (h : rngD lo hi = some ds) : (-(2 ^ 62) ≤ lo ∧ lo < 2 ^ 62 ∧ -(2 ^ 62) ≤ hi ∧ hi < 2 ^ 62) ∧ ItOk K (Itr lo (hi - lo).toNat) ds G0 := by
  unfold rngD at h
  split at h
  · rename_i c
    cases h
    refine ⟨⟨c.1, c.2.1, c.2.2.1, c.2.2.2.1⟩, ⟨by simpa using size_line c.2.2.2.2, fun i G H d s1 s2 e => ?_, fun G H _ _ => by simp only [List.length_map, List.length_range]; exact Nat.le_refl _⟩⟩
    rw [List.getElem?_map] at e
    by_cases hi' : i < (hi - lo).toNat
    · rw [List.getElem?_range hi'] at e
      cases e
      exact ⟨hi', fun x H' ⟨e1, e2⟩ => by subst e1 e2; exact ⟨G, Ext0.rfl s2, .int _⟩⟩
    · rw [List.getElem?_eq_none (by simpa using hi')] at e
      cases e
  · cases h
def iOpt (g : List D → Option (List D)) (m : M (List D)) : M (List D) := m.bind fun ds => M.opt (g ds)
section
variable {X : Cx} {Γ : Gm} {W : WX} {tg a b : Expr} {m : M (List D)} {p pos : Pos}
theorem di_rng1 (hg : Gl X "range") (hm : X.mg "range" = none) (ha : PA X [a] (tDs Γ W m)) (hs : starEach [a] X.env = [(false, eval a X.env)] := by rfl) : PI X tg (.Call (.Name "range" p) [a] [] pos) (tI Γ W (iOpt rng1 m)) := by
  refine PI.imp (pi_range1 hg hm ha hs) fun σ H R ⟨G, ρ, s, h⟩ => ⟨G, ρ, s, (post_bind.mp h).imp (fun ds ρ1 h1 vs G1 H1 x1 r1 => ?_) fun _ _ e => e⟩
  obtain ⟨es, e1, q⟩ := opt_post h1
  unfold rng1 at e1
  split at e1
  · rename_i hi
    cases r1 with
    | cons ra rb =>
      cases ra; cases rb
      obtain ⟨⟨_, _, c3, c4⟩, ok⟩ := itOk_rng (K := Γ.K) (G0 := G1) e1
      exact ⟨hi, rfl, c3, c4, by simpa using q _ G1 H1 x1 ok⟩
  · cases e1
theorem di_rng2 (hg : Gl X "range") (hm : X.mg "range" = none) (ha : PA X [a, b] (tDs Γ W m)) (hs : starEach [a, b] X.env = [(false, eval a X.env), (false, eval b X.env)] := by rfl) (hs2 : starEach [b] X.env = [(false, eval b X.env)] := by rfl) :
    PI X tg (.Call (.Name "range" p) [a, b] [] pos) (tI Γ W (iOpt rng2 m)) := by
  refine PI.imp (pi_range2 hg hm ha hs hs2) fun σ H R ⟨G, ρ, s, h⟩ => ⟨G, ρ, s, (post_bind.mp h).imp (fun ds ρ1 h1 vs G1 H1 x1 r1 => ?_) fun _ _ e => e⟩
  obtain ⟨es, e1, q⟩ := opt_post h1
  unfold rng2 at e1
  split at e1
  · rename_i lo hi
    cases r1 with
    | cons ra rb =>
      cases rb with
      | cons rb rc =>
        cases ra; cases rb; cases rc
        obtain ⟨c, ok⟩ := itOk_rng (K := Γ.K) (G0 := G1) e1
        exact ⟨lo, hi, rfl, c, q _ G1 H1 x1 ok⟩
  · cases e1
end

/-! ### for -/
def forL (g : Tg) (b : M Flw) : List D → M Flw
  | [] => M.ret .next
  | d :: ds => fun ρ => match g.set d ρ with
    | none => .bad
    | some ρ1 => match b ρ1 with
      | .ok .next ρ2 => forL g b ds ρ2
      | .ok .cont ρ2 => forL g b ds ρ2
      | .ok .brk ρ2 => .ok .next ρ2
      | .ok (.ret r) ρ2 => .ok (.ret r) ρ2
      | .err c ρ2 => .err c ρ2
      | .bad => .bad
def sFor (mi : M (List D)) (g : Tg) (b : M Flw) : M Flw := mi.bind (forL g b)
section
variable {X : Cx} {Γ : Gm} {W : WX} {P : List Nat} {pos : Pos}
theorem ds_for {tg iter : Expr} {body : List Stmt} {mi : M (List D)} {g : Tg} {mb : M Flw} (hp : PassesOwn (model X.prog X.w) X.A X.env X.xe) (hc : X.calm = true) (hi : PI X tg iter (tI Γ W mi)) (hg : PG X tg (tG Γ g)) (hb : PSs X body (tS Γ W P mb))
    (hP : ∀ i ∈ P, i ∉ g.ix) (hs : ∀ x, foldedSetIterable iter X.env x = pure x := by intro _; rfl) : PS X (.For tg iter body [] pos) (tS Γ W P (sFor mi g mb)) := by
  refine PS.imp (ps_for hp hc hi hg hb hs) fun D σ H ⟨G, ρ, s, h⟩ => ⟨G, ρ, s, (post_bind.mp h).imp (fun ds ρ1 h1 J G1 H1 x1 ok => ?_) fun c ρ' e => e.ew⟩
  -- the invariant: what is left of the walk
  refine ⟨fun i m σ' H' => m = ds.length - i ∧ i ≤ ds.length ∧ ∃ G' ρ', Sub G1 G' ∧ Stp Γ.K G H σ ρ G' H' σ' ρ' ∧ Kept P σ σ' ∧
      (forL g mb (ds.drop i) ρ').Post (fun f ρ2 => ∀ σ2 G2 H2, Stp Γ.K G H σ ρ G2 H2 σ2 ρ2 → Kept P σ σ2 → FlwOk Γ.K G H σ ρ G2 H2 σ2 ρ2 D f) (EWs Γ W P G H σ ρ), ⟨_, rfl, Nat.zero_le _, G1, ρ1, Sub.rfl, x1, fun _ _ => rfl, h1⟩, ?_⟩
  rintro i m σ' H' ⟨rfl, hi, G', ρ', sg, x, k, q⟩
  by_cases hlt : i < ds.length
  · right
    rw [List.drop_eq_getElem_cons hlt] at q
    obtain ⟨go, yl⟩ := ok.at_ i G' H' ds[i] sg x.sr.sub (List.getElem?_eq_getElem hlt)
    refine ⟨go, fun σ2 H2 => ∃ G2 ρ2, Sub G1 G2 ∧ Stp Γ.K G H σ ρ G2 H2 σ2 ρ2 ∧ Kept P σ σ2 ∧
      (forL g mb (ds.drop (i + 1)) ρ2).Post (fun f ρ2 => ∀ σ2 G2 H2, Stp Γ.K G H σ ρ G2 H2 σ2 ρ2 → Kept P σ σ2 → FlwOk Γ.K G H σ ρ G2 H2 σ2 ρ2 D f) (EWs Γ W P G H σ ρ),
      fun σ2 H2 ⟨G2, ρ2, s2, x2, k2, q2⟩ => ⟨ds.length - (i + 1), by omega, rfl, hlt, G2, ρ2, s2, x2, k2, q2⟩, fun v H2 yv => ?_⟩
    obtain ⟨G2, e2, r2⟩ := yl v H2 yv
    have y2 := x.sr.ext e2
    unfold forL at q
    cases hg : g.set ds[i] ρ' with
    | none => simp only [hg] at q; exact q.elim
    | some ρ3 =>
      simp only [hg] at q
      refine ⟨G2, ρ', ds[i], ρ3, y2.sr, r2, hg, fun σ3 x3 k3 => ?_⟩
      have x4 := (x.tr y2).tr x3
      have k4 : Kept P σ σ3 := fun j hj => (k3 j (hP j hj)).trans (k j hj)
      refine ⟨G2, ρ3, x3.sr, ?_⟩
      cases hb : mb ρ3 with
      | bad => simp only [hb] at q; exact q.elim
      | err c ρ4 =>
        simp only [hb] at q
        exact EWs.tr x4 k4 q
      | ok f ρ4 =>
        simp only [hb] at q
        intro σ5 G5 H5 x5 k5
        have xx := x4.tr x5
        have kk : Kept P σ σ5 := fun j hj => (k5 j hj).trans (k4 j hj)
        cases f with
        | next => exact ⟨G5, ρ4, (sg.tr e2.g).tr x5.fr.ext, xx, kk, q⟩
        | cont => exact ⟨G5, ρ4, (sg.tr e2.g).tr x5.fr.ext, xx, kk, q⟩
        | brk => exact q σ5 G5 H5 xx kk
        | ret r => exact fun u hu => (q σ5 G5 H5 xx kk) u (RvOk.tr x4 hu)
  · left
    have e : i = ds.length := by omega
    subst e
    refine ⟨ok.fin G' H' sg x.sr.sub, ?_⟩
    rw [List.drop_length] at q
    exact q σ' G' H' x k

/-! ### while -/
def whileF (c : M Bool) (b : M Flw) : Nat → M Flw
  | 0 => M.fail
  | n + 1 => c.bind fun x => if x then b.bind fun f => (match f with
      | .next => whileF c b n
      | .cont => whileF c b n
      | .brk => M.ret .next
      | .ret r => M.ret (.ret r)) else M.ret .next
theorem ds_while {c : Expr} {body : List Stmt} {mc : M Bool} {mb : M Flw} {fuel : Nat} (hp : PassesOwn (model X.prog X.w) X.A X.env X.xe) (hc : PT X c (tT Γ W mc)) (hb : PSs X body (tS Γ W P mb)) : PS X (.While c body [] pos) (tS Γ W P (whileF mc mb fuel)) := by
  refine PS.imp (ps_while hp hc hb) fun D σ H ⟨G, ρ, s, h⟩ => ?_
  refine ⟨fun m σ' H' => ∃ G' ρ', Stp Γ.K G H σ ρ G' H' σ' ρ' ∧ Kept P σ σ' ∧
      (whileF mc mb m ρ').Post (fun f ρ2 => ∀ σ2 G2 H2, Stp Γ.K G H σ ρ G2 H2 σ2 ρ2 → Kept P σ σ2 → FlwOk Γ.K G H σ ρ G2 H2 σ2 ρ2 D f) (EWs Γ W P G H σ ρ), ⟨fuel, G, ρ, Stp.rfl s, fun _ _ => rfl, h⟩, ?_⟩
  rintro m σ' H' ⟨G', ρ', x, k, q⟩
  cases m with
  | zero => exact q.elim
  | succ m =>
    unfold whileF at q
    refine ⟨G', ρ', x.sr, (post_bind.mp q).imp (fun b ρ1 q1 G1 H1 x1 => ?_) fun c ρ' e => (EWs.tr x k e).ew⟩
    cases b with
    | false => exact q1 σ' G1 H1 (x.tr x1) k
    | true =>
      rw [if_pos rfl]
      refine ⟨fun σ2 H2 => ∃ G2 ρ2, Stp Γ.K G H σ ρ G2 H2 σ2 ρ2 ∧ Kept P σ σ2 ∧
        (whileF mc mb m ρ2).Post (fun f ρ2 => ∀ σ2 G2 H2, Stp Γ.K G H σ ρ G2 H2 σ2 ρ2 → Kept P σ σ2 → FlwOk Γ.K G H σ ρ G2 H2 σ2 ρ2 D f) (EWs Γ W P G H σ ρ),
        fun σ2 H2 z => ⟨m, Nat.lt_succ_self m, z⟩, ?_⟩
      have x4 := x.tr x1
      refine ⟨G1, ρ1, x1.sr, (post_bind.mp (show Out.Post ((mb.bind _) ρ1) _ _ from q1)).imp (fun f ρ4 q σ5 G5 H5 x5 k5 => ?_) fun c ρ' e => EWs.tr x4 k e⟩
      have xx := x4.tr x5
      have kk : Kept P σ σ5 := fun j hj => (k5 j hj).trans (k j hj)
      cases f with
      | next => exact ⟨G5, ρ4, xx, kk, q⟩
      | cont => exact ⟨G5, ρ4, xx, kk, q⟩
      | brk => exact q σ5 G5 H5 xx kk
      | ret r => exact fun u hu => (q σ5 G5 H5 xx kk) u (RvOk.tr x4 hu)
end
end DL

/-! DLd: comprehensions; defs and their calls. -/
namespace DL
open PySem PySem.Spec L2

/-! ### comprehensions -/
abbrev WF : WX := fun _ _ _ _ => False
def wipeR (ρ : Rho) : List Nat → Rho
  | [] => ρ
  | v :: vs => (wipeR ρ vs).set v .un
def restR (ρ0 ρ : Rho) : List Nat → Rho
  | [] => ρ
  | v :: vs => (restR ρ0 ρ vs).set v (ρ0[v]?.getD .un)
def isOwn : Option Slot → Bool
  | some (.own _) => true
  | _ => false
theorem wipeR_length (ρ : Rho) : ∀ vs, (wipeR ρ vs).length = ρ.length
  | [] => rfl
  | v :: vs => by unfold wipeR; rw [List.length_set, wipeR_length ρ vs]
theorem restR_length (ρ0 ρ : Rho) : ∀ vs, (restR ρ0 ρ vs).length = ρ.length
  | [] => rfl
  | v :: vs => by unfold restR; rw [List.length_set, restR_length ρ0 ρ vs]
theorem wipeR_at {ρ : Rho} {i : Nat} {s : Slot} : ∀ {vs : List Nat}, (wipeR ρ vs)[i]? = some s → s = .un ∨ (i ∉ vs ∧ ρ[i]? = some s)
  | [], h => .inr ⟨by simp, h⟩
  | v :: vs, h => by
    unfold wipeR at h
    by_cases hi : v = i
    · subst hi
      by_cases hv : v < (wipeR ρ vs).length
      · rw [List.getElem?_set_self hv] at h; cases h; exact .inl rfl
      · rw [List.getElem?_eq_none (by simpa using hv)] at h; cases h
    · rw [List.getElem?_set_ne hi] at h
      rcases wipeR_at h with z | ⟨z1, z2⟩
      · exact .inl z
      · exact .inr ⟨by simp only [List.mem_cons, not_or]; exact ⟨fun e => hi e.symm, z1⟩, z2⟩
theorem restR_at {ρ0 ρ : Rho} {i : Nat} {s : Slot} : ∀ {vs : List Nat}, (restR ρ0 ρ vs)[i]? = some s → (i ∈ vs ∧ s = ρ0[i]?.getD .un) ∨ (i ∉ vs ∧ ρ[i]? = some s)
  | [], h => .inr ⟨by simp, h⟩
  | v :: vs, h => by
    unfold restR at h
    by_cases hi : v = i
    · subst hi
      by_cases hv : v < (restR ρ0 ρ vs).length
      · rw [List.getElem?_set_self hv] at h; cases h; exact .inl ⟨List.mem_cons_self, rfl⟩
      · rw [List.getElem?_eq_none (by simpa using hv)] at h; cases h
    · rw [List.getElem?_set_ne hi] at h
      rcases restR_at h with ⟨z1, z2⟩ | ⟨z1, z2⟩
      · exact .inl ⟨List.mem_cons_of_mem _ z1, z2⟩
      · exact .inr ⟨by simp only [List.mem_cons, not_or]; exact ⟨fun e => hi e.symm, z1⟩, z2⟩
theorem wipe_at {σ : St} {i : Nat} : ∀ {vs : List Nat}, i ∉ vs → (wipe σ vs)[i]? = σ[i]?
  | [], _ => rfl
  | v :: vs, h => by
    unfold wipe
    simp only [List.mem_cons, not_or] at h
    rw [List.getElem?_set_ne (fun e => h.1 e.symm)]
    exact wipe_at h.2
theorem wipe_in {σ : St} {i : Nat} (hi : i < σ.length) : ∀ {vs : List Nat}, i ∈ vs → (wipe σ vs)[i]? = some none
  | [], h => by cases h
  | v :: vs, h => by
    unfold wipe
    by_cases e : v = i
    · subst e; rw [List.getElem?_set_self (by rw [wipe_length]; exact hi)]
    · rw [List.getElem?_set_ne e]
      rcases List.mem_cons.mp h with z | z
      · exact absurd z.symm e
      · exact wipe_in hi z
theorem wipe_eq {σ σ' : St} {vs : List Nat} (hl : σ'.length = σ.length) (h : ∀ i, i ∉ vs → σ'[i]? = σ[i]?) : wipe σ' vs = wipe σ vs := by
  apply List.ext_getElem?
  intro i
  by_cases hi : i ∈ vs
  · by_cases hlt : i < σ.length
    · rw [wipe_in hlt hi, wipe_in (by rw [hl]; exact hlt) hi]
    · rw [List.getElem?_eq_none (by rw [wipe_length]; omega), List.getElem?_eq_none (by rw [wipe_length]; omega)]
  · rw [wipe_at hi, wipe_at hi]; exact h i hi
section
variable {K : PySem.W.Frag} {G H G' H' : Hp} {σ σ' : St} {ρ ρ' : Rho} {vs : List Nat}
theorem OwnAt.wiped {j : Nat} {a : Addr} (x : OwnAt σ' (wipeR ρ vs) j a) : j ∉ vs ∧ ∃ c, ρ[j]? = some (.own c) ∧ σ'[j]? = some (some (.ref a)) := by
  obtain ⟨c, e1, e2⟩ := x
  rcases wipeR_at e1 with z | ⟨z1, z2⟩
  · cases z
  · exact ⟨z1, c, z2, e2⟩
/-- slots are forgotten -/
theorem SR.wiped (s : SR K G H σ ρ) (hl : σ'.length = σ.length) (h : ∀ i, i ∉ vs → σ'[i]? = σ[i]?) : SR K G H σ' (wipeR ρ vs) ∧ ∀ a, Ow σ' (wipeR ρ vs) a → Ow σ ρ a := by
  have back : ∀ j a, OwnAt σ' (wipeR ρ vs) j a → OwnAt σ ρ j a := fun j a x => by
    obtain ⟨z, c, e1, e2⟩ := x.wiped
    exact ⟨c, e1, by rw [← h j z]; exact e2⟩
  refine ⟨⟨s.sub, by rw [wipeR_length, hl]; exact s.len, fun i t e => ?_, fun i j a x y => s.sep i j a (back i a x) (back j a y)⟩, fun a ⟨j, x⟩ => ⟨j, back j a x⟩⟩
  rcases wipeR_at e with z | ⟨z1, z2⟩
  · subst z; trivial
  · rw [h i z1]; exact s.ok i t z2
/-- an object that is nobody's is changed -/
theorem Stp.updD (x : Stp K G H σ ρ G' H' σ' ρ') {p : Addr} {o : HO} (h : H p = none) (g : G' p = none) (n : ¬ Ow σ' ρ' p) : Stp K G H σ ρ G' (upd H' p o) σ' ρ' := by
  refine ⟨⟨fun a u e => ?_, x.sr.len, fun i t e => ?_, x.sr.sep⟩, ⟨x.fr.ext, fun a u e nl => ?_, x.fr.nog⟩, x.ow⟩
  · rw [upd_ne (ne_of_none e g)]; exact x.sr.sub a u e
  · have z := x.sr.ok i t e
    cases t with
    | un => trivial
    | ex a => exact z
    | fz d => exact z
    | own c =>
      obtain ⟨b, u, x1, x2, x3, x4⟩ := z
      refine ⟨b, u, x1, x2, ?_, x4⟩
      rw [upd_ne]
      · exact x3
      · intro z; subst z; exact n ⟨i, c, e, x1⟩
  · rw [upd_ne (ne_of_none e h)]; exact x.fr.keep a u e nl
end
def compL (vs : List Nat) (g : Tg) (t : M Bool) (e : M D) : List D → List D → Rho → Out (List D)
  | [], acc, ρ => .ok acc ρ
  | d :: ds, acc, ρ => match g.set d ρ with
    | none => .bad
    | some ρ1 => match t ρ1 with
      | .ok true ρ2 => match e ρ2 with
        | .ok y ρ3 => compL vs g t e ds (acc ++ [y]) (wipeR ρ3 vs)
        | _ => .bad
      | .ok false ρ2 => compL vs g t e ds acc (wipeR ρ2 vs)
      | _ => .bad
def oComp (vs : List Nat) (mi : M (List D)) (g : Tg) (t : M Bool) (e : M D) : M OC := mi.bind fun ds ρ =>
  if vs.any (fun v => isOwn ρ[v]?) then .bad else
  match compL vs g t e ds [] (wipeR ρ vs) with
  | .ok acc ρ' => .ok (.lst acc) (restR ρ ρ' vs)
  | .err _ _ => .bad
  | .bad => .bad
def tYesM : M Bool := M.ret true
section
variable {X : Cx} {Γ : Gm} {W : WX}
theorem PTs.imp {e : List Expr} {t t' : TT} (h : PTs X e t) (k : ∀ σ H Q, t' σ H Q → t σ H Q) : PTs X e t' := ⟨fun pins s σ H Q I q => h.run pins s σ H Q I (k _ _ _ q)⟩
theorem dts_nil : PTs X [] (tT Γ W tYesM) := PTs.imp pts_nil fun σ H Q ⟨G, ρ, s, h⟩ => h G H (Stp.rfl s)
theorem dts_one {c : Expr} {m : M Bool} (h : PT X c (tT Γ W m)) : PTs X [c] (tT Γ W m) := pts_one h
theorem lc_read {mi : M (List D)} {g : Tg} {mt : M Bool} {me : M D} {vs : List Nat} (hgv : ∀ i ∈ g.ix, i ∈ vs) {σ : St} {H : Hp} {Q : VK} (h : tO Γ W (oComp vs mi g mt me) σ H Q) :
    tLc (tI Γ W mi) (tG Γ g) (tT Γ WF mt) (tD Γ WF me) vs σ H Q := by
  obtain ⟨G, ρ, s, h⟩ := h
  refine ⟨G, ρ, s, (post_bind.mp h).imp (fun ds ρ1 h1 J G1 H1 x1 ok p np => ?_) fun c ρ' e => e⟩
  split at h1
  · exact h1.elim
  rename_i nov
  have gnp : G1 p = none := x1.sr.sub.none np
  obtain ⟨s0, ow0⟩ := x1.sr.wiped (σ' := wipe σ vs) (vs := vs) (wipe_length σ vs) (fun i hi => wipe_at hi)
  have np0 : ¬ Ow (wipe σ vs) (wipeR ρ1 vs) p := fun z => by
    obtain ⟨i, c, e1, e2⟩ := ow0 p z
    obtain ⟨a, u, f1, f2, f3, f4⟩ := x1.sr.own e1
    rw [e2] at f1; cases f1
    rw [np] at f3; cases f3
  generalize hC : compL vs g mt me ds [] (wipeR ρ1 vs) = C0 at h1
  -- the invariant
  refine ⟨fun i m H' => m = ds.length - i ∧ i ≤ ds.length ∧ ∃ G' ρ' accV acc, Sub G1 G' ∧ Stp Γ.K G1 H1 (wipe σ vs) (wipeR ρ1 vs) G' H' (wipe σ vs) ρ' ∧ H' p = some (.lst accV) ∧ G' p = none ∧ ¬ Ow (wipe σ vs) ρ' p ∧ RpAll Γ.K G' accV acc ∧ acc.length ≤ i ∧
    C0 = compL vs g mt me (ds.drop i) acc ρ',
    ⟨_, rfl, Nat.zero_le _, G1, wipeR ρ1 vs, [], [], Sub.rfl, (Stp.rfl s0).updD np gnp np0, upd_same, gnp, np0, .nil, Nat.le_refl _, hC.symm⟩, ?_⟩
  rintro i m H' ⟨rfl, hi, G', ρ', accV, acc, sg, x, hp, gp, nop, ra, al, ce⟩
  by_cases hlt : i < ds.length
  · right
    rw [List.drop_eq_getElem_cons hlt] at ce
    obtain ⟨go, yl⟩ := ok.at_ i G' H' ds[i] sg x.sr.sub (List.getElem?_eq_getElem hlt)
    refine ⟨go, fun H2 => ∃ G2 ρ2 accV acc, Sub G1 G2 ∧ Stp Γ.K G1 H1 (wipe σ vs) (wipeR ρ1 vs) G2 H2 (wipe σ vs) ρ2 ∧ H2 p = some (.lst accV) ∧ G2 p = none ∧ ¬ Ow (wipe σ vs) ρ2 p ∧ RpAll Γ.K G2 accV acc ∧ acc.length ≤ i + 1 ∧
      C0 = compL vs g mt me (ds.drop (i + 1)) acc ρ2,
      fun H2 ⟨G2, ρ2, aV, a, z1, z2, z3, z4, z5, z6, z7, z8⟩ => ⟨ds.length - (i + 1), by omega, rfl, hlt, G2, ρ2, aV, a, z1, z2, z3, z4, z5, z6, z7, z8⟩, fun v H2 yv => ?_⟩
    obtain ⟨G2, e2, r2⟩ := yl v H2 yv
    have y2 := x.sr.ext e2
    unfold compL at ce
    cases hg : g.set ds[i] ρ' with
    | none => simp only [hg] at ce; rw [ce] at h1; exact h1.elim
    | some ρ3 =>
      simp only [hg] at ce
      refine ⟨G2, ρ', ds[i], ρ3, y2.sr, r2, hg, fun σ3 x3 k3 => ⟨?_, ?_⟩⟩
      · refine (wipe_eq (σ := wipe σ vs) (σ' := σ3) ?_ fun j hj => k3 j fun z => hj (hgv j z)).trans (wipe_eq (wipe_length σ vs) fun j hj => wipe_at hj)
        have h1 := x3.sr.len
        have h2 := y2.sr.len
        have h3 := x.sr.len
        have hset : ρ3.length = ρ'.length := by
          have := k3
          have l1 : σ3.length = ρ3.length := x3.sr.len
          have l2 : (wipe σ vs).length = ρ'.length := x.sr.len
          exact set_length hg
        omega
      have kq : ∀ j, j ∉ vs → σ3[j]? = (wipe σ vs)[j]? := fun j hj => k3 j fun z => hj (hgv j z)
      have l3 : (wipe σ vs).length = σ3.length := by rw [x3.sr.len, set_length hg]; exact x.sr.len
      -- p stays apart
      have stay : ∀ {G4 H4 : Hp} {ρ4 : Rho}, Stp Γ.K G2 H2 σ3 ρ3 G4 H4 σ3 ρ4 → H4 p = some (.lst accV) ∧ G4 p = none ∧ ¬ Ow σ3 ρ4 p := fun {G4 H4 ρ4} y => by
        have h2 : H2 p = some (.lst accV) := e2.h _ _ hp
        have g2 : G2 p = none := e2.n _ _ hp gp
        have n3 : ¬ Ow σ3 ρ3 p := fun z => by
          rcases x3.ow p z with q | q
          · exact nop q
          · rw [h2] at q; cases q
        exact ⟨y.fr.keep _ _ h2 n3, y.fr.nog _ _ h2 g2 n3, fun z => by
          rcases y.ow p z with q | q
          · exact n3 q
          · rw [h2] at q; cases q⟩
      -- a turn's end
      have fin : ∀ {G4 H4 : Hp} {ρ4 : Rho} {aV : List V} {a : List D}, Stp Γ.K G2 H2 σ3 ρ3 G4 H4 σ3 ρ4 → RpAll Γ.K G4 aV a → a.length ≤ i + 1 → C0 = compL vs g mt me (ds.drop (i + 1)) a (wipeR ρ4 vs) →
          ∀ H5, H5 = upd H4 p (.lst aV) ∨ (H5 = H4 ∧ aV = accV) → ∃ G2 ρ2 accV acc, Sub G1 G2 ∧ Stp Γ.K G1 H1 (wipe σ vs) (wipeR ρ1 vs) G2 H5 (wipe σ vs) ρ2 ∧ H5 p = some (.lst accV) ∧ G2 p = none ∧ ¬ Ow (wipe σ vs) ρ2 p ∧ RpAll Γ.K G2 accV acc ∧ acc.length ≤ i + 1 ∧
            C0 = compL vs g mt me (ds.drop (i + 1)) acc ρ2 := fun {G4 H4 ρ4 aV a} y ra' al' ce' H5 hH => by
        obtain ⟨p1, p2, p3⟩ := stay y
        have xx := ((x.tr y2).tr x3).tr y
        obtain ⟨s5, ow5⟩ := xx.sr.wiped (σ' := wipe σ vs) (vs := vs) l3 (fun j hj => (kq j hj).symm)
        have st5 : Stp Γ.K G1 H1 (wipe σ vs) (wipeR ρ1 vs) G4 H4 (wipe σ vs) (wipeR ρ4 vs) := ⟨s5, xx.fr, fun b z => xx.ow b (ow5 b z)⟩
        have n5 : ¬ Ow (wipe σ vs) (wipeR ρ4 vs) p := fun z => p3 (ow5 p z)
        rcases hH with rfl | ⟨rfl, rfl⟩
        · exact ⟨G4, _, aV, a, (sg.tr e2.g).tr y.fr.ext, st5.updD np p2 n5, upd_same, p2, n5, ra', al', ce'⟩
        · exact ⟨G4, _, _, a, (sg.tr e2.g).tr y.fr.ext, st5, p1, p2, n5, ra', al', ce'⟩
      refine ⟨G2, ρ3, x3.sr, ?_⟩
      cases ht : mt ρ3 with
      | bad => simp only [ht] at ce; rw [ce] at h1; exact h1.elim
      | err c ρ4 => simp only [ht] at ce; rw [ce] at h1; exact h1.elim
      | ok b ρ4 =>
        intro G4 H4 y4
        cases b with
        | false =>
          simp only [ht] at ce
          rw [if_neg Bool.false_ne_true]
          exact fin y4 (ra.mono (e2.g.tr y4.fr.ext)) (by omega) ce H4 (.inr ⟨rfl, rfl⟩)
        | true =>
          simp only [ht] at ce
          rw [if_pos rfl]
          refine ⟨G4, ρ4, y4.sr, ?_⟩
          cases he : me ρ4 with
          | bad => simp only [he] at ce; rw [ce] at h1; exact h1.elim
          | err c ρ5 => simp only [he] at ce; rw [ce] at h1; exact h1.elim
          | ok y ρ5 =>
            simp only [he] at ce
            intro u G5 H5 y5 r5
            obtain ⟨p1, p2, p3⟩ := stay (y4.tr y5)
            refine ⟨accV, p1, ?_, fin (y4.tr y5) ((ra.mono ((e2.g.tr y4.fr.ext).tr y5.fr.ext)).append (.cons r5 .nil)) (by simp; omega) ce _ (.inl rfl)⟩
            have := ra.length
            have := ok.sz
            omega
  · left
    have e : i = ds.length := by omega
    subst e
    refine ⟨ok.fin G' H' sg x.sr.sub, ?_⟩
    rw [List.drop_length] at ce
    unfold compL at ce
    rw [ce] at h1
    -- back outside
    have back : ∀ j a, OwnAt σ (restR ρ1 ρ' vs) j a → j ∉ vs ∧ OwnAt (wipe σ vs) ρ' j a := fun j a ⟨c, e1, e2⟩ => by
      rcases restR_at e1 with ⟨z1, z2⟩ | ⟨z1, z2⟩
      · exfalso
        cases q : ρ1[j]? with
        | none => rw [q] at z2; cases z2
        | some t =>
          rw [q] at z2
          have z3 : Slot.own c = t := z2
          subst z3
          exact nov (List.any_eq_true.mpr ⟨j, z1, by rw [q]; rfl⟩)
      · exact ⟨z1, c, z2, by rw [wipe_at z1]; exact e2⟩
    have st : Stp Γ.K G1 H1 σ ρ1 G' H' σ (restR ρ1 ρ' vs) := by
      refine ⟨⟨x.sr.sub, ?_, fun j t e => ?_, fun j k a y z => x.sr.sep j k a (back j a y).2 (back k a z).2⟩, ⟨x.fr.ext, fun a o e n => x.fr.keep a o e fun z => n (ow0 a z), fun a o e g n => x.fr.nog a o e g fun z => n (ow0 a z)⟩, fun a ⟨j, y⟩ => ?_⟩
      · rw [restR_length, ← x.sr.len, wipe_length]
      · rcases restR_at e with ⟨z1, z2⟩ | ⟨z1, z2⟩
        · cases q : ρ1[j]? with
          | none => rw [q] at z2; subst z2; trivial
          | some t' =>
            rw [q] at z2
            have z3 : t = t' := z2
            subst z3
            have ok1 := x1.sr.ok j t q
            cases t with
            | un => trivial
            | ex a => exact ok1
            | fz d => obtain ⟨v, w1, w2⟩ := ok1; exact ⟨v, w1, w2.mono sg⟩
            | own c => exact (nov (List.any_eq_true.mpr ⟨j, z1, by rw [q]; rfl⟩)).elim
        · have := x.sr.ok j t z2
          rw [wipe_at z1] at this
          exact this
      · rcases x.ow a ⟨j, (back j a y).2⟩ with z | z
        · exact .inl (ow0 a z)
        · exact .inr z
    refine h1 _ G' H' (x1.tr st) ⟨p, _, rfl, gp, hp, .lst ra, fun ⟨j, y⟩ => nop ⟨j, (back j p y).2⟩, ?_⟩
    exact x1.was (.inr np)
where
  set_length {g : Tg} {d : D} {ρ ρ' : Rho} (h : g.set d ρ = some ρ') : ρ'.length = ρ.length := by
    revert h
    exact (setLen g d ρ ρ')
  setLen : ∀ (g : Tg) (d : D) (ρ ρ' : Rho), g.set d ρ = some ρ' → ρ'.length = ρ.length
    | .nm i, d, ρ, ρ', h => by
      unfold Tg.set at h
      split at h
      · cases h; rw [List.length_set]
      · cases h
    | .tp ts, d, ρ, ρ', h => by
      unfold Tg.set at h
      split at h
      · split at h
        · exact setLens ts _ ρ ρ' h
        · cases h
      · cases h
  setLens : ∀ (gs : List Tg) (ds : List D) (ρ ρ' : Rho), Tg.setAll gs ds ρ = some ρ' → ρ'.length = ρ.length
    | [], [], ρ, ρ', h => by cases h; rfl
    | t :: ts, d :: ds, ρ, ρ', h => by
      unfold Tg.setAll at h
      cases q : t.set d ρ with
      | none => rw [q] at h; cases h
      | some ρ1 =>
        rw [q] at h
        exact (setLens ts ds ρ1 ρ' h).trans (setLen t d ρ ρ1 q)
    | [], _ :: _, ρ, ρ', h => by cases h
    | _ :: _, [], ρ, ρ', h => by cases h
end
end DL

/-! DLe: comprehensions as rules; defs and their calls. -/
namespace DL
open PySem PySem.Spec L2
open PyProof.Rows (envOfC)

section
variable {X : Cx} {Γ : Gm} {W : WX} {P : List Nat}
theorem do_comp {elt tg iter : Expr} {ifs : List Expr} {scope : Scope} {own : List (Str × Nat)} {pos : Pos} {mi : M (List D)} {g : Tg} {mt : M Bool} {me : M D} (hc : X.calm = true) (hN : X.N.Nodup) (hi : PI X tg iter (tI Γ W mi)) (ok : blkC X.N X.env.scope scope own = true)
    (hg : ∀ (s : Shared) (H : Hp) (C : Addr) (cl : List (Str × Addr)) (fp : List Addr), PG (X.blk s H scope (compEnvC scope cl C X.env) fp) tg (tG Γ g)) (ht : ∀ (s : Shared) (H : Hp) (C : Addr) (cl : List (Str × Addr)) (fp : List Addr), PTs (X.blk s H scope (compEnvC scope cl C X.env) fp) ifs (tT Γ WF mt))
    (he : ∀ (s : Shared) (H : Hp) (C : Addr) (cl : List (Str × Addr)) (fp : List Addr), PE (X.blk s H scope (compEnvC scope cl C X.env) fp) elt (tD Γ WF me)) (hgv : (g.ix.all fun i => (own.map (·.2)).contains i) = true) (hs : ∀ x, foldedSetIterable iter X.env x = pure x := by intro _; rfl) :
    PE X (.ListComp elt [⟨tg, iter, ifs, 0⟩] scope pos) (tO Γ W (oComp (own.map (·.2)) mi g mt me)) :=
  PE.imp (pe_lc hc hN hi (blkOk_by ok) hg ht he hs) fun σ H Q h => lc_read (fun i hi => by
    have := List.all_eq_true.mp hgv i hi
    simpa using this) h
theorem ds_setLcO {i : Nat} {y : Str} {py : Pos} {elt tg iter : Expr} {ifs : List Expr} {scope : Scope} {own : List (Str × Nat)} {pos spos : Pos} {mi : M (List D)} {g : Tg} {mt : M Bool} {me : M D} (hc : X.calm = true) (hN : X.N.Nodup) (hy : X.N[i]? = some y) (hyl : X.env.scope.names.lookup y = some .local)
    (hsw : swapsWith (.ListComp elt [⟨tg, iter, ifs, 0⟩] scope pos) (some (.Name y py)) spos.line X.env = pure true) (hi : PI X tg iter (tI Γ W mi)) (ok : blkC X.N X.env.scope scope own = true)
    (hg : ∀ (s : Shared) (H : Hp) (C : Addr) (cl : List (Str × Addr)) (fp : List Addr), PG (X.blk s H scope (compEnvC scope cl C X.env) fp) tg (tG Γ g)) (ht : ∀ (s : Shared) (H : Hp) (C : Addr) (cl : List (Str × Addr)) (fp : List Addr), PTs (X.blk s H scope (compEnvC scope cl C X.env) fp) ifs (tT Γ WF mt))
    (he : ∀ (s : Shared) (H : Hp) (C : Addr) (cl : List (Str × Addr)) (fp : List Addr), PE (X.blk s H scope (compEnvC scope cl C X.env) fp) elt (tD Γ WF me)) (hgv : (g.ix.all fun i => (own.map (·.2)).contains i) = true) (hp : i ∉ P) (hs : ∀ x, foldedSetIterable iter X.env x = pure x := by intro _; rfl) :
    PS X (.Assign [.Name y py] (.ListComp elt [⟨tg, iter, ifs, 0⟩] scope pos) spos) (tS Γ W P (sSetO i (oComp (own.map (·.2)) mi g mt me))) := by
  refine PS.imp (ps_setLc hc hN hy hyl hsw hi (blkOk_by ok) hg ht he hs) fun D σ H h => ?_
  refine lc_read (fun i hi => by
    have := List.all_eq_true.mp hgv i hi
    simpa using this) ?_
  obtain ⟨G, ρ, s, h⟩ := h
  refine ⟨G, ρ, s, (post_bind.mp h).imp (fun c ρ1 h1 v G1 H1 x1 r1 => ?_) fun c ρ' e => e.ew⟩
  obtain ⟨hl, q⟩ := set_post (σ := σ) (ρ' := ρ) h1
  obtain ⟨a, u, rfl, g, hu, oc, n, f⟩ := r1
  obtain ⟨sr, ow⟩ := x1.sr.setO hl g hu oc n
  refine q _ G1 H1 ⟨sr, x1.fr, fun b z => ?_⟩ (kept_set hp)
  rcases ow b z with z | z
  · subst z; exact f
  · exact x1.ow b z
theorem ds_setLc {i : Nat} {y : Str} {py : Pos} {elt tg iter : Expr} {ifs : List Expr} {scope : Scope} {own : List (Str × Nat)} {pos spos : Pos} {mi : M (List D)} {g : Tg} {mt : M Bool} {me : M D} (hc : X.calm = true) (hN : X.N.Nodup) (hy : X.N[i]? = some y) (hyl : X.env.scope.names.lookup y = some .local)
    (hsw : swapsWith (.ListComp elt [⟨tg, iter, ifs, 0⟩] scope pos) (some (.Name y py)) spos.line X.env = pure true) (hi : PI X tg iter (tI Γ W mi)) (ok : blkC X.N X.env.scope scope own = true)
    (hg : ∀ (s : Shared) (H : Hp) (C : Addr) (cl : List (Str × Addr)) (fp : List Addr), PG (X.blk s H scope (compEnvC scope cl C X.env) fp) tg (tG Γ g)) (ht : ∀ (s : Shared) (H : Hp) (C : Addr) (cl : List (Str × Addr)) (fp : List Addr), PTs (X.blk s H scope (compEnvC scope cl C X.env) fp) ifs (tT Γ WF mt))
    (he : ∀ (s : Shared) (H : Hp) (C : Addr) (cl : List (Str × Addr)) (fp : List Addr), PE (X.blk s H scope (compEnvC scope cl C X.env) fp) elt (tD Γ WF me)) (hgv : (g.ix.all fun i => (own.map (·.2)).contains i) = true) (hp : i ∉ P) (hs : ∀ x, foldedSetIterable iter X.env x = pure x := by intro _; rfl) :
    PS X (.Assign [.Name y py] (.ListComp elt [⟨tg, iter, ifs, 0⟩] scope pos) spos) (tS Γ W P (sSet i (ofO (oComp (own.map (·.2)) mi g mt me)))) := by
  refine PS.imp (ps_setLc hc hN hy hyl hsw hi (blkOk_by ok) hg ht he hs) fun D σ H h => ?_
  refine lc_read (fun i hi => by
    have := List.all_eq_true.mp hgv i hi
    simpa using this) ?_
  obtain ⟨G, ρ, s, h⟩ := h
  refine ⟨G, ρ, s, (post_bind.mp (post_bind.mp h)).imp (fun c ρ1 h1 v G1 H1 x1 r1 => ?_) fun c ρ' e => e.ew⟩
  obtain ⟨p, u, rfl, g, hp', oc, n, f⟩ := r1
  have st := x1.own_freeze g hp' n f
  have key : ∀ (d : PyData), Rp Γ.K (upd G1 p u) (.ref p) d → (if i < ρ1.length then Out.ok Flw.next (ρ1.set i (.fz d)) else .bad : Out Flw).Post (fun f ρ' => ∀ σ' G' H', Stp Γ.K G H σ ρ G' H' σ' ρ' → Kept P σ σ' → FlwOk Γ.K G H σ ρ G' H' σ' ρ' D f) (EWs Γ W P G H σ ρ) → gName i (.ref p) σ H1 D.nx := fun d r q => by
    obtain ⟨hl, q⟩ := set_post (σ := σ) (ρ' := ρ) q
    exact q _ _ H1 (st.tr (st.sr.setF hl r)) (kept_set hp)
  cases oc with
  | lst q => exact key (.list _) (.lst upd_same (q.mono (Sub.upd g))) h1
  | dK q =>
    cases q with
    | nil => exact key (.dict []) (.emp upd_same) h1
    | cons _ _ => exact h1.elim
  | dT q => exact h1.elim
  | dN q => exact h1.elim
end

/-! ### what a def promises -/
def PostF (Γ : Gm) (G H : Hp) (vs : List V) (ss : Rho) (Q : VK) (E : XK) (o : Out Slot) : Prop :=
  o.Post (fun r ss' => ∀ v G' H', Stp Γ.K G H (vs.map some) ss G' H' (vs.map some) ss' → RvOk Γ.K G H (vs.map some) ss G' H' (vs.map some) ss' v r → Q v H')
    (fun c ss' => ∀ cls dx G' H', Stp Γ.K G H (vs.map some) ss G' H' (vs.map some) ss' → ExcOk Γ G' c cls dx → E cls dx H')
def spF (Γ : Gm) (F : M Slot) : Sp := fun vs H Q E => ∃ G ss, SR Γ.K G H (vs.map some) ss ∧ PostF Γ G H vs ss Q E (F ss)
/-- as FnOk, with the guards known; an exception may leave -/
structure FnG (P : Program) (w : World) (K : PySem.W.Frag) (mg : Str → Option Value) (base : Heap) (k : Nat) (f : Addr) (fd : FuncData) (ps : List Str) (F : M Slot) : Prop where
  len : ∀ ss, (∃ r ss', F ss = .ok r ss') ∨ (∃ c ss', F ss = .err c ss') → ss.length = ps.length
  go : ∀ (A : Around) (outer : List Env) (s : Shared) (H : Hp) (args : Args) (us : List Value) (vs : List V) (Q : VK) (E : XK), Room k A → A.guards = some [] → Env0 P w K mg base A outer s H →
    BindsTo s fd args (ps.zip us) → Vals vs us → spF ⟨K, mg⟩ F vs H Q E → codeAny (model P w) A (.call (.ref f) args) (CR (L2N.CX P w) outer P w H s Q E) s
theorem spF.len {Γ : Gm} {F : M Slot} {n : Nat} (hl : ∀ ss, (∃ r ss', F ss = .ok r ss') ∨ (∃ c ss', F ss = .err c ss') → ss.length = n) {vs : List V} {H : Hp} {Q : VK} {E : XK} (h : spF Γ F vs H Q E) : vs.length = n := by
  obtain ⟨G, ss, s, q⟩ := h
  have e := s.len
  rw [List.length_map] at e
  rw [e]
  apply hl
  cases q' : F ss with
  | ok r ss' => exact .inl ⟨r, ss', rfl⟩
  | err c ss' => exact .inr ⟨c, ss', rfl⟩
  | bad => rw [q'] at q; exact q.elim
theorem FnG.up {P : Program} {w : World} {K : PySem.W.Frag} {mg : Str → Option Value} {base : Heap} {j k : Nat} {f : Addr} {fd : FuncData} {ps : List Str} {F : M Slot} (h : FnG P w K mg base j f fd ps F) (le : j ≤ k) : FnG P w K mg base k f fd ps F :=
  ⟨h.len, fun A outer s H args us vs Q E hr => h.go A outer s H args us vs Q E (hr.mono le)⟩

/-! ### a body -/
/-- own parameters must still be own at the end -/
def backS : Rho → Rho → Option Rho
  | [], _ => some []
  | .own _ :: ss, .own c :: rs => (backS ss rs).map (.own c :: ·)
  | .own _ :: _, _ => none
  | .fz d :: ss, _ :: rs => (backS ss rs).map (.fz d :: ·)
  | .ex a :: ss, _ :: rs => (backS ss rs).map (.ex a :: ·)
  | _, _ => none
def fnM (n N : Nat) (b : M Flw) : M Slot := fun ss =>
  if ss.length = n then
    match b (ss ++ List.replicate (N - n) .un) with
    | .ok (.ret r) ρ => match backS ss ρ with
      | some ss' => .ok r ss'
      | none => .bad
    | .ok .next ρ => match backS ss ρ with
      | some ss' => .ok (.fz .none) ss'
      | none => .bad
    | .err c ρ => match backS ss ρ with
      | some ss' => .err c ss'
      | none => .bad
    | _ => .bad
  else .bad
theorem fnM_len {n N : Nat} {b : M Flw} {ss : Rho} (h : (∃ r ss', fnM n N b ss = .ok r ss') ∨ (∃ c ss', fnM n N b ss = .err c ss')) : ss.length = n := by
  unfold fnM at h
  split at h
  · assumption
  · rcases h with ⟨_, _, z⟩ | ⟨_, _, z⟩ <;> cases z
theorem backS_at : ∀ {ss rs ss' : Rho}, backS ss rs = some ss' → ss'.length = ss.length ∧ ∀ (i : Nat) (t : Slot), ss'[i]? = some t → ((∀ c, t ≠ Slot.own c) ∧ ss[i]? = some t) ∨ (∃ c c', t = Slot.own c ∧ ss[i]? = some (Slot.own c') ∧ rs[i]? = some t)
  | [], _, _, h => by cases h; exact ⟨rfl, fun i t e => by simp at e⟩
  | .own c0 :: ss, .own c :: rs, _, h => by
    unfold backS at h
    cases q : backS ss rs with
    | none => rw [q] at h; cases h
    | some r =>
      rw [q] at h
      cases h
      obtain ⟨l, a⟩ := backS_at q
      refine ⟨by simp [l], fun i t e => ?_⟩
      cases i with
      | zero => simp at e; subst e; exact .inr ⟨c, c0, rfl, rfl, rfl⟩
      | succ i => exact a i t (by simpa using e)
  | .own _ :: _, [], _, h => by cases h
  | .own _ :: _, .un :: _, _, h => by cases h
  | .own _ :: _, .fz _ :: _, _, h => by cases h
  | .own _ :: _, .ex _ :: _, _, h => by cases h
  | .fz d :: ss, s :: rs, _, h => by
    unfold backS at h
    cases q : backS ss rs with
    | none => rw [q] at h; cases h
    | some r =>
      rw [q] at h
      cases h
      obtain ⟨l, a⟩ := backS_at q
      refine ⟨by simp [l], fun i t e => ?_⟩
      cases i with
      | zero => simp at e; subst e; exact .inl ⟨fun _ => nofun, rfl⟩
      | succ i => exact a i t (by simpa using e)
  | .fz _ :: _, [], _, h => by cases h
  | .ex d :: ss, s :: rs, _, h => by
    unfold backS at h
    cases q : backS ss rs with
    | none => rw [q] at h; cases h
    | some r =>
      rw [q] at h
      cases h
      obtain ⟨l, a⟩ := backS_at q
      refine ⟨by simp [l], fun i t e => ?_⟩
      cases i with
      | zero => simp at e; subst e; exact .inl ⟨fun _ => nofun, rfl⟩
      | succ i => exact a i t (by simpa using e)
  | .ex _ :: _, [], _, h => by cases h
  | .un :: _, _, _, h => by cases h
theorem start_get {N : List Str} {vs : List V} {i : Nat} (hi : i < vs.length) : (start N vs)[i]? = (vs.map some)[i]? := by
  unfold L2.start; rw [List.getElem?_append_left (by simpa using hi)]
theorem sr_start {K : PySem.W.Frag} {G H : Hp} {N : List Str} {vs : List V} {ss : Rho} (s : SR K G H (vs.map some) ss) (hN : vs.length ≤ N.length) :
    Stp K G H (vs.map some) ss G H (start N vs) (ss ++ List.replicate (N.length - vs.length) .un) ∧ True := by
  have hl : vs.length = ss.length := by have := s.len; rwa [List.length_map] at this
  have un : ∀ j t, ss.length ≤ j → (ss ++ List.replicate (N.length - vs.length) Slot.un)[j]? = some t → t = .un := fun j t h e => by
    rw [List.getElem?_append_right h, List.getElem?_replicate] at e
    split at e <;> cases e
    rfl
  have back : ∀ j a, OwnAt (start N vs) (ss ++ List.replicate (N.length - vs.length) .un) j a → OwnAt (vs.map some) ss j a := fun j a ⟨c, e1, e2⟩ => by
    by_cases h : j < ss.length
    · rw [List.getElem?_append_left h] at e1
      rw [start_get (by omega)] at e2
      exact ⟨c, e1, e2⟩
    · have := un j _ (by omega) e1
      cases this
  refine ⟨⟨⟨s.sub, ?_, fun j t e => ?_, fun i j a x y => s.sep i j a (back i a x) (back j a y)⟩, Fr.rfl, fun a ⟨j, x⟩ => .inl ⟨j, back j a x⟩⟩, trivial⟩
  · unfold L2.start; simp [hl]
  · by_cases h : j < ss.length
    · rw [List.getElem?_append_left h] at e
      rw [start_get (by omega)]
      exact s.ok j t e
    · have := un j t (by omega) e
      subst this
      trivial
/-- back at the caller's arguments -/
theorem stp_back {K : PySem.W.Frag} {G H G' H' : Hp} {N : List Str} {vs : List V} {ss ss' ρ' : Rho} {σ' : St} (s : SR K G H (vs.map some) ss) (hN : vs.length ≤ N.length)
    (x : Stp K G H (start N vs) (ss ++ List.replicate (N.length - vs.length) .un) G' H' σ' ρ') (kp : ∀ (i : Nat) (c : OC), ss[i]? = some (Slot.own c) → σ'[i]? = (start N vs)[i]?) (hb : backS ss ρ' = some ss') :
    Stp K G H (vs.map some) ss G' H' (vs.map some) ss' ∧ ∀ a, Ow (vs.map some) ss' a → Ow σ' ρ' a := by
  have x0 := (sr_start s hN).1
  have y := x0.tr x
  obtain ⟨bl, ba⟩ := backS_at hb
  have hl : vs.length = ss.length := by have := s.len; rwa [List.length_map] at this
  have fwd : ∀ i a, OwnAt (vs.map some) ss' i a → OwnAt σ' ρ' i a ∧ OwnAt (vs.map some) ss i a := fun i a ⟨c, e1, e2⟩ => by
    rcases ba i _ e1 with ⟨z, _⟩ | ⟨c1, c2, z1, z2, z3⟩
    · exact absurd rfl (z _)
    · have hi : i < vs.length := by
        rw [hl]
        cases Nat.lt_or_ge i ss.length with
        | inl z => exact z
        | inr z => rw [List.getElem?_eq_none z] at z2; cases z2
      exact ⟨⟨c, z3, by rw [kp i _ z2, start_get hi]; exact e2⟩, c2, z2, e2⟩
  refine ⟨⟨⟨y.sr.sub, by rw [bl]; exact s.len, fun i t e => ?_, fun i j a p q => s.sep i j a (fwd i a p).2 (fwd j a q).2⟩, y.fr, fun a ⟨i, p⟩ => .inl ⟨i, (fwd i a p).2⟩⟩, fun a ⟨i, p⟩ => ⟨i, (fwd i a p).1⟩⟩
  rcases ba i t e with ⟨z1, z2⟩ | ⟨c1, c2, z1, z2, z3⟩
  · have w := s.ok i _ z2
    cases t with
    | un => trivial
    | ex a => exact w
    | own c => exact absurd rfl (z1 c)
    | fz d =>
      obtain ⟨v, w1, w2⟩ := w
      exact ⟨v, w1, w2.mono y.fr.ext⟩
  · subst z1
    have hi : i < vs.length := by
      rw [hl]
      cases Nat.lt_or_ge i ss.length with
      | inl z => exact z
      | inr z => rw [List.getElem?_eq_none z] at z2; cases z2
    have := y.sr.ok i _ z3
    rw [kp i _ z2, start_get hi] at this
    exact this
theorem guards_deeper (A : Around) (env : Env) : (A.deeper env).guards = A.guards := rfl
/-- the own slots of the arguments stand at these places -/
def ownIn (P : List Nat) (ss : Rho) : Bool := (List.range ss.length).all fun i => !isOwn ss[i]? || P.contains i
/-- a body's reading, from what is wished of the call -/
theorem body_main {K : PySem.W.Frag} {mg : Str → Option Value} {G H : Hp} {vs : List V} {ss : Rho} {Q : VK} {E : XK} {N : List Str} {Pr : List Nat} {n : Nat} {b : M Flw} (sr : SR K G H (vs.map some) ss) (hn : vs.length = n) (hN : vs.length ≤ N.length) (hO : ownIn Pr ss = true)
    (post : PostF ⟨K, mg⟩ G H vs ss Q E (fnM n N.length b ss)) : tS ⟨K, mg⟩ (fun cls dx _ H' => E cls dx H') Pr b { nx := fun _ H' => Q .non H', rt := Q } (start N vs) H := by
  have hss : vs.length = ss.length := by have := sr.len; rwa [List.length_map] at this
  unfold PostF fnM at post
  rw [if_pos (by omega)] at post
  have kp : ∀ {σ' : St}, Kept Pr (start N vs) σ' → ∀ (i : Nat) (c : OC), ss[i]? = some (Slot.own c) → σ'[i]? = (start N vs)[i]? := fun {σ'} kk i c e => by
    have hi : i < ss.length := by
      cases Nat.lt_or_ge i ss.length with
      | inl z => exact z
      | inr z => rw [List.getElem?_eq_none z] at e; cases e
    have := List.all_eq_true.mp hO i (List.mem_range.mpr hi)
    rw [e] at this
    exact kk i (by simpa [isOwn] using this)
  have x0 := (sr_start (N := N) sr hN).1
  rw [hn] at x0
  refine ⟨G, _, x0.sr, ?_⟩
  cases hbo : b (ss ++ List.replicate (N.length - n) Slot.un) with
  | bad => rw [hbo] at post; exact post.elim
  | err c ρ' =>
    simp only [hbo] at post
    cases hk : backS ss ρ' with
    | none => simp only [hk] at post; exact post.elim
    | some ss' =>
      simp only [hk] at post
      intro cls dx σ' G' H' x kk ex
      have sb := stp_back sr hN (by rw [hn]; exact x) (kp kk) hk
      exact post cls dx G' H' sb.1 ex
  | ok fl ρ' =>
    simp only [hbo] at post
    cases fl with
    | brk => exact post.elim
    | cont => exact post.elim
    | next =>
      cases hk : backS ss ρ' with
      | none => simp only [hk] at post; exact post.elim
      | some ss' =>
        simp only [hk] at post
        intro σ' G' H' x kk
        have sb := stp_back sr hN (by rw [hn]; exact x) (kp kk) hk
        exact post .non G' H' sb.1 .non
    | ret r =>
      cases hk : backS ss ρ' with
      | none => simp only [hk] at post; exact post.elim
      | some ss' =>
        simp only [hk] at post
        intro σ' G' H' x kk v hv
        have sb := stp_back sr hN (by rw [hn]; exact x) (kp kk) hk
        refine post v G' H' sb.1 ?_
        cases r with
        | un => exact hv
        | ex _ => exact hv
        | fz d => exact hv
        | own c =>
          obtain ⟨a, u, e1, e2, e3, e4, e5, e6⟩ := hv
          exact ⟨a, u, e1, e2, e3, e4, fun z => e5 (sb.2 a z), x0.was e6⟩
/-- THE RULE for a def: its body's reading -/
theorem fn_body {P : Program} {w : World} {K : PySem.W.Frag} {mg : Str → Option Value} {base : Heap} {k : Nat} {f : Addr} {x qual : Str} {st : Stmt} {fd : FuncData} {N ps : List Str} {Pr : List Nat} {b : M Flw} {n : Nat} (F : Fun K x qual st f fd) (S : FnScope N ps (defScope st)) (hn : n = ps.length)
    (hbody : ∀ (cdv : Value) (A : Around) (outer : List Env) (s : Shared) (H : Hp) (E : XK), Room k (A.deeper (envOfC qual (defScope st) s.heap.objs.size f cdv)) → (A.deeper (envOfC qual (defScope st) s.heap.objs.size f cdv)).guards = some [] →
      PSs (cxOf (L2N.CX P w) P w K mg base N qual (defScope st) f cdv A outer s H E) (defBody st) (tS ⟨K, mg⟩ (fun cls dx _ H' => E cls dx H') Pr b)) :
    FnG P w K mg base (k + 1) f fd ps (fun ss => if ownIn Pr ss then fnM n N.length b ss else .bad) := by
  subst hn
  have hlen : ∀ ss, (∃ r ss', (fun ss => if ownIn Pr ss = true then fnM ps.length N.length b ss else Out.bad) ss = .ok r ss') ∨ (∃ c ss', (fun ss => if ownIn Pr ss = true then fnM ps.length N.length b ss else Out.bad) ss = .err c ss') → ss.length = ps.length := fun ss h => by
    by_cases q : ownIn Pr ss = true
    · simp only [q, if_true] at h
      exact fnM_len h
    · simp only [q, Bool.false_eq_true, if_false] at h
      rcases h with ⟨_, _, z⟩ | ⟨_, _, z⟩ <;> cases z
  refine ⟨hlen, fun A outer s H args us vs Q E hr hgd e0 hb rv hsp => ?_⟩
  obtain ⟨oc, od, kV, doc, pm, an, cdv, ct, osl, rfl, lk, hcd⟩ := F.ex
  have hl : vs.length = ps.length := spF.len hlen hsp
  have KX : K.In s.heap := e0.mod.kin.keeps fun b o e => (e0.bs b o e).1
  have lim : s.heap.NoLimit := e0.mod.nolimit.keeps fun b o e => (e0.bs b o e).1
  have hkind : ∀ y ∈ ps.zip us, (defScope st).names.lookup y.1 = some .local ∨ ((defScope st).names.lookup y.1 = some .cell ∧ ((cellsFrom (s.heap.objs.size + 1) (defScope st).names []).lookup y.1).isSome = true) := fun y hy =>
    (S.par y.1 (List.of_mem_zip hy).1).imp id fun q => ⟨q, PySem.W.cellsFrom_some _ _ _ (.inl q)⟩
  refine codeAny_call_function hr.depth (KX _ _ lk) rfl S.co S.gen rfl (PySem.W.codeRec_of KX hcd) (hb _ _ _ _ ?_)
  refine wpAny_newFunctionEnv_cells S.kind hkind fun env he s1 xx => ?_
  subst he
  refine ⟨lim.keeps xx.toInCall.keep, codeAny_func ?_⟩
  have ht := hbody cdv A outer s H E (hr.deeper _) (by rw [guards_deeper]; exact hgd)
  have I : Inv (cxOf (L2N.CX P w) P w K mg base N qual (defScope st) f cdv A outer s H E) [] (start N vs) H s1 := inv_start S hr.hd e0 hl rv xx
  obtain ⟨G, ss, sr, post⟩ := hsp
  have hpl : ps.length ≤ N.length := by have := congrArg List.length S.pre; rw [List.length_take] at this; omega
  have hN : vs.length ≤ N.length := by omega
  have hss : vs.length = ss.length := by have := sr.len; rwa [List.length_map] at this
  by_cases hO : ownIn Pr ss = true
  · simp only [hO, if_true] at post
    have main : tS ⟨K, mg⟩ (fun cls dx _ H' => E cls dx H') Pr b { nx := fun _ H' => Q .non H', rt := Q } (start N vs) H := body_main sr hl hN hO post
    refine wpAny_mono (ht.run [] s1 (start N vs) H _ I main) (fun fl s' hs => ?_) fun e s' hs => hs
    cases fl with
    | ret u =>
      obtain ⟨v, σ', H', J, rv', q⟩ := hs
      exact ⟨v, H', J.os, J.bare, J.base, J.hok, rv', q⟩
    | next =>
      obtain ⟨σ', H', J, q⟩ := hs
      exact ⟨V.non, H', J.os, J.bare, J.base, J.hok, rfl, q⟩
    | brk => obtain ⟨_, _, _, q⟩ := hs; exact q.elim
    | cont => obtain ⟨_, _, _, q⟩ := hs; exact q.elim
  · simp only [hO, Bool.false_eq_true, if_false] at post
    exact post.elim
end DL

/-! DLf: calls of defs. -/
namespace DL
open PySem PySem.Spec L2
open PyProof.Rows (envOfC)

def argSlot (ρ : Rho) : Arg → Option Slot
  | .fz d => some (.fz d)
  | .rf i => match ρ[i]? with
    | some .un => none
    | o => o
def argSlots (ρ : Rho) : List Arg → Option Rho
  | [] => some []
  | a :: as => match argSlot ρ a with
    | some s => (argSlots ρ as).map (s :: ·)
    | none => none
def backR : List Arg → Rho → Rho → Option Rho
  | [], _, ρ => some ρ
  | .fz _ :: as, _ :: ss, ρ => backR as ss ρ
  | .rf i :: as, .own c :: ss, ρ => if isOwn ρ[i]? then backR as ss (ρ.set i (.own c)) else none
  | .rf i :: as, .fz _ :: ss, ρ => if isOwn ρ[i]? then none else backR as ss ρ
  | .rf i :: as, .ex _ :: ss, ρ => if isOwn ρ[i]? then none else backR as ss ρ
  | _, _, _ => none
def ndA : List Arg → Bool
  | [] => true
  | .fz _ :: as => ndA as
  | .rf i :: as => as.all (fun a => match a with
    | .rf j => i != j
    | _ => true) && ndA as
/-- a call of a def -/
def callF (F : M Slot) (as : List Arg) : M Slot := fun ρ =>
  if ndA as then
    match argSlots ρ as with
    | none => .bad
    | some ss => match F ss with
      | .ok r ss' => match backR as ss' ρ with
        | some ρ' => .ok r ρ'
        | none => .bad
      | .err c ss' => match backR as ss' ρ with
        | some ρ' => .err c ρ'
        | none => .bad
      | .bad => .bad
  else .bad
def eCallF (F : M Slot) (m : M (List Arg)) : M Slot := m.bind (callF F)
theorem ndA_at : ∀ {as : List Arg}, ndA as = true → ∀ (k l i : Nat), as[k]? = some (Arg.rf i) → as[l]? = some (Arg.rf i) → k = l
  | [], _, k, l, i, e, _ => by simp at e
  | .fz _ :: as, h, k, l, i, e1, e2 => by
    cases k with
    | zero => simp at e1
    | succ k =>
      cases l with
      | zero => simp at e2
      | succ l => exact congrArg Nat.succ (ndA_at (as := as) h k l i (by simpa using e1) (by simpa using e2))
  | .rf j :: as, h, k, l, i, e1, e2 => by
    have h' := (Bool.and_eq_true _ _ ▸ h : _ = true ∧ _ = true)
    have no : ∀ m : Nat, as[m]? = some (Arg.rf j) → False := fun m e => by
      have := List.all_eq_true.mp h'.1 _ (List.mem_of_getElem? e)
      simp at this
    cases k with
    | zero =>
      cases l with
      | zero => rfl
      | succ l =>
        simp at e1; subst e1
        exact (no l (by simpa using e2)).elim
    | succ k =>
      cases l with
      | zero =>
        simp at e2; subst e2
        exact (no k (by simpa using e1)).elim
      | succ l => exact congrArg Nat.succ (ndA_at (as := as) h'.2 k l i (by simpa using e1) (by simpa using e2))
theorem argSlots_at {ρ : Rho} : ∀ {as : List Arg} {ss : Rho}, argSlots ρ as = some ss → ss.length = as.length ∧ ∀ (k : Nat) (t : Slot), ss[k]? = some t → ∃ a, as[k]? = some a ∧ argSlot ρ a = some t
  | [], _, h => by cases h; exact ⟨rfl, fun k t e => by simp at e⟩
  | a :: as, ss, h => by
    unfold argSlots at h
    cases q : argSlot ρ a with
    | none => rw [q] at h; cases h
    | some s =>
      rw [q] at h
      cases q2 : argSlots ρ as with
      | none => simp only [q2] at h; cases h
      | some r =>
        simp only [q2] at h
        cases h
        obtain ⟨l, f⟩ := argSlots_at q2
        refine ⟨by simp [l], fun k t e => ?_⟩
        cases k with
        | zero => simp at e; subst e; exact ⟨a, rfl, q⟩
        | succ k => exact f k t (by simpa using e)
theorem backR_at : ∀ {as : List Arg} {ss ρ ρ' : Rho}, backR as ss ρ = some ρ' → ρ'.length = ρ.length ∧ ∀ (i : Nat) (t : Slot), ρ'[i]? = some t →
    (ρ[i]? = some t ∧ ∀ k : Nat, as[k]? = some (Arg.rf i) → isOwn ρ[i]? = false) ∨ (∃ (k : Nat) (c c' : OC), as[k]? = some (Arg.rf i) ∧ ss[k]? = some (Slot.own c) ∧ t = Slot.own c ∧ ρ[i]? = some (Slot.own c'))
  | [], _, _, _, h => by cases h; exact ⟨rfl, fun i t e => .inl ⟨e, fun k z => by simp at z⟩⟩
  | .fz _ :: as, s :: ss, ρ, ρ', h => by
    obtain ⟨l, f⟩ := backR_at (as := as) (ss := ss) h
    refine ⟨l, fun i t e => ?_⟩
    rcases f i t e with ⟨z1, z2⟩ | ⟨k, c, c', z1, z2, z3, z4⟩
    · refine .inl ⟨z1, fun k q => ?_⟩
      cases k with
      | zero => simp at q
      | succ k => exact z2 k (by simpa using q)
    · exact .inr ⟨k + 1, c, c', by simpa using z1, by simpa using z2, z3, z4⟩
  | .rf j :: as, .own c :: ss, ρ, ρ', h => by
    unfold backR at h
    split at h
    · rename_i ho
      obtain ⟨l, f⟩ := backR_at (as := as) (ss := ss) h
      rw [List.length_set] at l
      have hj : ∃ c0, ρ[j]? = some (Slot.own c0) := by
        cases q : ρ[j]? with
        | none => rw [q] at ho; cases ho
        | some t =>
          rw [q] at ho
          cases t with
          | own c0 => exact ⟨c0, rfl⟩
          | un => cases ho
          | ex _ => cases ho
          | fz _ => cases ho
      obtain ⟨c0, hj⟩ := hj
      have hlt : j < ρ.length := by
        cases Nat.lt_or_ge j ρ.length with
        | inl z => exact z
        | inr z => rw [List.getElem?_eq_none z] at hj; cases hj
      refine ⟨l, fun i t e => ?_⟩
      by_cases hij : j = i
      · subst hij
        rcases f j t e with ⟨z1, z2⟩ | ⟨k, c1, c', z1, z2, z3, z4⟩
        · rw [List.getElem?_set_self hlt] at z1
          cases z1
          exact .inr ⟨0, c, c0, rfl, rfl, rfl, hj⟩
        · exact .inr ⟨k + 1, c1, c0, by simpa using z1, by simpa using z2, z3, hj⟩
      · rcases f i t e with ⟨z1, z2⟩ | ⟨k, c1, c', z1, z2, z3, z4⟩
        · rw [List.getElem?_set_ne hij] at z1 z2
          refine .inl ⟨z1, fun k q => ?_⟩
          cases k with
          | zero => simp at q; exact absurd q hij
          | succ k => exact z2 k (by simpa using q)
        · rw [List.getElem?_set_ne hij] at z4
          exact .inr ⟨k + 1, c1, c', by simpa using z1, by simpa using z2, z3, z4⟩
    · cases h
  | .rf j :: as, .fz _ :: ss, ρ, ρ', h => by
    unfold backR at h
    split at h
    · cases h
    · rename_i ho
      obtain ⟨l, f⟩ := backR_at (as := as) (ss := ss) h
      refine ⟨l, fun i t e => ?_⟩
      rcases f i t e with ⟨z1, z2⟩ | ⟨k, c, c', z1, z2, z3, z4⟩
      · refine .inl ⟨z1, fun k q => ?_⟩
        cases k with
        | zero => simp at q; subst q; simpa using ho
        | succ k => exact z2 k (by simpa using q)
      · exact .inr ⟨k + 1, c, c', by simpa using z1, by simpa using z2, z3, z4⟩
  | .rf j :: as, .ex _ :: ss, ρ, ρ', h => by
    unfold backR at h
    split at h
    · cases h
    · rename_i ho
      obtain ⟨l, f⟩ := backR_at (as := as) (ss := ss) h
      refine ⟨l, fun i t e => ?_⟩
      rcases f i t e with ⟨z1, z2⟩ | ⟨k, c, c', z1, z2, z3, z4⟩
      · refine .inl ⟨z1, fun k q => ?_⟩
        cases k with
        | zero => simp at q; subst q; simpa using ho
        | succ k => exact z2 k (by simpa using q)
      · exact .inr ⟨k + 1, c, c', by simpa using z1, by simpa using z2, z3, z4⟩
  | .fz _ :: _, [], _, _, h => by cases h
  | .rf _ :: _, [], _, _, h => by cases h
  | .rf _ :: _, .un :: _, _, _, h => by cases h
theorem argsOk_at {K : PySem.W.Frag} {G : Hp} {σ : St} : ∀ {vs : List V} {as : List Arg}, ArgsOk K G σ vs as → vs.length = as.length ∧ ∀ (k : Nat) (a : Arg), as[k]? = some a → ∃ v, vs[k]? = some v ∧ ArgOk K G σ v a
  | _, _, .nil => ⟨rfl, fun k a e => by simp at e⟩
  | _, _, .cons r t => by
    obtain ⟨l, f⟩ := argsOk_at t
    refine ⟨by simp [l], fun k a e => ?_⟩
    cases k with
    | zero => simp at e; subst e; exact ⟨_, rfl, r⟩
    | succ k => exact f k a (by simpa using e)
section
variable {K : PySem.W.Frag} {G H G' H' : Hp} {σ : St} {ρ ρ' ss ss' : Rho} {vs : List V} {as : List Arg}
theorem call_in (s : SR K G H σ ρ) (ha : ArgsOk K G σ vs as) (hs : argSlots ρ as = some ss) (nd : ndA as = true) :
    SR K G H (vs.map some) ss ∧ ∀ (k : Nat) (a : Addr), OwnAt (vs.map some) ss k a → ∃ i : Nat, as[k]? = some (Arg.rf i) ∧ OwnAt σ ρ i a := by
  obtain ⟨l1, f1⟩ := argSlots_at hs
  obtain ⟨l2, f2⟩ := argsOk_at ha
  have back : ∀ (k : Nat) (a : Addr), OwnAt (vs.map some) ss k a → ∃ i : Nat, as[k]? = some (Arg.rf i) ∧ OwnAt σ ρ i a := fun k a ⟨c, e1, e2⟩ => by
    obtain ⟨b, g1, g2⟩ := f1 k _ e1
    cases b with
    | fz d => cases g2
    | rf i =>
      refine ⟨i, g1, c, ?_, ?_⟩
      · unfold argSlot at g2
        simp only at g2
        split at g2
        · cases g2
        · exact g2
      · obtain ⟨v, h1, h2⟩ := f2 k _ g1
        rw [List.getElem?_map, h1] at e2
        cases e2
        exact h2
  refine ⟨⟨s.sub, by rw [List.length_map, l2, l1], fun k t e => ?_, fun k l a x y => ?_⟩, back⟩
  · obtain ⟨b, g1, g2⟩ := f1 k _ e
    obtain ⟨v, h1, h2⟩ := f2 k _ g1
    rw [List.getElem?_map, h1]
    cases b with
    | fz d => cases g2; exact ⟨v, rfl, h2⟩
    | rf i =>
      unfold argSlot at g2
      simp only at g2
      split at g2
      · cases g2
      · have z := s.ok i t g2
        have h2' : σ[i]? = some (some v) := h2
        rw [h2'] at z
        exact z
  · obtain ⟨i, p1, p2⟩ := back k a x
    obtain ⟨j, q1, q2⟩ := back l a y
    have := s.sep i j a p2 q2
    subst this
    exact ndA_at nd k l i p1 q1
theorem call_out (s : SR K G H σ ρ) (ha : ArgsOk K G σ vs as) (hs : argSlots ρ as = some ss) (nd : ndA as = true) (x : Stp K G H (vs.map some) ss G' H' (vs.map some) ss') (hb : backR as ss' ρ = some ρ') :
    Stp K G H σ ρ G' H' σ ρ' ∧ ∀ a, Ow σ ρ' a → Ow σ ρ a := by
  obtain ⟨s0, back⟩ := call_in s ha hs nd
  obtain ⟨l2, f2⟩ := argsOk_at ha
  obtain ⟨bl, bf⟩ := backR_at hb
  have nl : ∀ a, ¬ Ow σ ρ a → ¬ Ow (vs.map some) ss a := fun a n ⟨k, z⟩ => by
    obtain ⟨i, _, q⟩ := back k a z
    exact n ⟨i, q⟩
  have own' : ∀ i a, OwnAt σ ρ' i a → OwnAt σ ρ i a := fun i a ⟨c, e1, e2⟩ => by
    rcases bf i _ e1 with ⟨z1, _⟩ | ⟨k, c1, c', z1, z2, z3, z4⟩
    · exact ⟨c, z1, e2⟩
    · exact ⟨c', z4, e2⟩
  refine ⟨⟨⟨x.sr.sub, by rw [bl]; exact s.len, fun i t e => ?_, fun i j a p q => s.sep i j a (own' i a p) (own' j a q)⟩, ⟨x.fr.ext, fun a o e n => x.fr.keep a o e (nl a n), fun a o e g n => x.fr.nog a o e g (nl a n)⟩, fun a ⟨i, p⟩ => .inl ⟨i, own' i a p⟩⟩, fun a ⟨i, p⟩ => ⟨i, own' i a p⟩⟩
  rcases bf i t e with ⟨z1, zn⟩ | ⟨k, c1, c', z1, z2, z3, z4⟩
  · have z := s.ok i t z1
    cases t with
    | un => trivial
    | ex a => exact z
    | fz d => obtain ⟨v, w1, w2⟩ := z; exact ⟨v, w1, w2.mono x.fr.ext⟩
    | own c =>
      obtain ⟨a, u, w1, w2, w3, w4⟩ := z
      have na : ¬ Ow (vs.map some) ss a := fun ⟨k, q⟩ => by
        obtain ⟨j, q1, q2⟩ := back k a q
        have e2 := s.sep i j a ⟨c, z1, w1⟩ q2
        subst e2
        have := zn k q1
        rw [z1] at this
        cases this
      exact ⟨a, u, w1, x.fr.nog a u w3 w2 na, x.fr.keep a u w3 na, w4.mono x.fr.ext⟩
  · subst z3
    obtain ⟨v, h1, h2⟩ := f2 k _ z1
    have z := x.sr.ok k _ z2
    rw [List.getElem?_map, h1] at z
    have h2' : σ[i]? = some (some v) := h2
    rw [h2']
    exact z
end

/-! ### the rule -/
structure Def (K : PySem.W.Frag) (mg : Str → Option Value) (x : Str) (f : Addr) (fd : FuncData) (ps : List Str) : Prop where
  m : mg x = some (.ref f)
  kp : PySem.W.keepIn K (.ref f) = true
  b : ∀ (s : Shared) (us : List Value), us.length = ps.length → BindsTo s fd ⟨us, []⟩ (ps.zip us)
def pick {α : Type} (l : List α) : List Nat → List α
  | [] => []
  | i :: is => match l[i]? with
    | some a => a :: pick l is
    | none => pick l is
theorem pick_rel {α β : Type} {R : α → β → Prop} {l : List α} {m : List β} (h : Paired R l m) : ∀ is : List Nat, Paired R (pick l is) (pick m is)
  | [] => .nil
  | i :: is => by
    unfold pick
    have key : ∀ {l : List α} {m : List β} (i : Nat), Paired R l m → (∃ a b, l[i]? = some a ∧ m[i]? = some b ∧ R a b) ∨ (l[i]? = none ∧ m[i]? = none) := by
      intro l m i h
      induction h generalizing i with
      | nil => exact .inr ⟨by simp, by simp⟩
      | cons r t ih =>
        cases i with
        | zero => exact .inl ⟨_, _, rfl, rfl, r⟩
        | succ i => simpa using ih i
    rcases key i h with ⟨a, b, e1, e2, r⟩ | ⟨e1, e2⟩
    · rw [e1, e2]; exact .cons r (pick_rel h is)
    · rw [e1, e2]; exact pick_rel h is
/-- how keywords bind: the values in the order of writing, picked into the parameters' order -/
def KB (fd : FuncData) (ps ks : List Str) (n : Nat) (is : List Nat) : Prop := ∀ (s : Shared) (us ws : List Value), us.length = n → ws.length = ks.length → BindsTo s fd ⟨us, ks.zip ws⟩ (ps.zip (pick (us ++ ws) is))
def mPick (is : List Nat) (m : M (List Arg)) : M (List Arg) := m.bind fun as => M.ret (pick as is)
/-- a slot handed in: its own object, or what it holds -/
def aSlot (i : Nat) (mb : M (List Arg)) : M (List Arg) := fun ρ => match ρ[i]? with
  | some (.own _) => eCons (aRf i) mb ρ
  | some (.fz d) => eCons (M.ret (.fz d)) mb ρ
  | some (.ex _) => eCons (aRf i) mb ρ
  | _ => .bad
section
variable {X : Cx} {Γ : Gm} {W : WX} {k : Nat} {f : Addr} {fd : FuncData} {ps : List Str} {F : M Slot} {x : Str} {p pos : Pos} {e : Expr} {es : List Expr} {m : M (List Arg)}
theorem da_nil : PA X [] (tA Γ W eNil) := PA.imp pa_nil fun σ H Q ⟨G, ρ, s, h⟩ => h [] G H (Stp.rfl s) .nil
theorem da_fz {ma : M D} {mb : M (List Arg)} (ha : PE X e (tD Γ W ma)) (hb : PA X es (tA Γ W mb)) (hs : starEach (e :: es) X.env = (false, eval e X.env) :: starEach es X.env := by rfl) :
    PA X (e :: es) (tA Γ W (eCons (aFz ma) mb)) := by
  refine PA.imp (pa_cons ha hb hs) fun σ H Q ⟨G, ρ, s, h⟩ => ⟨G, ρ, s, (post_bind.mp (post_bind.mp h)).imp (fun d ρ1 h1 v G1 H1 x1 r1 => ?_) fun c ρ' e => e⟩
  refine ⟨G1, ρ1, x1.sr, (post_bind.mp (show Out.Post ((mb.bind _) ρ1) _ _ from h1)).imp (fun as ρ2 h2 u G2 H2 x2 r2 => h2 _ G2 H2 (x1.tr x2) (.cons (r1.mono x2.fr.ext) r2)) fun c ρ' e => e.tr x1⟩
theorem da_rf {i : Nat} {y : Str} {py : Pos} {mb : M (List Arg)} (ha : PE X (.Name y py) (tVar i)) (hb : PA X es (tA Γ W mb)) (hs : starEach (.Name y py :: es) X.env = (false, eval (.Name y py) X.env) :: starEach es X.env := by rfl) :
    PA X (.Name y py :: es) (tA Γ W (aSlot i mb)) := by
  refine PA.imp (pa_cons ha hb hs) fun σ H Q ⟨G, ρ, s, h⟩ => ?_
  unfold aSlot at h
  split at h
  · rename_i c e
    obtain ⟨a, u, e1, e2, e3, e4⟩ := s.own e
    refine ⟨.ref a, e1, G, ρ, s, (post_bind.mp (show Out.Post ((mb.bind _) ρ) _ _ from h)).imp (fun as ρ2 h2 u G2 H2 x2 r2 => h2 _ G2 H2 x2 (.cons e1 r2)) fun c ρ' e => e⟩
  · rename_i d e
    obtain ⟨v, e1, e2⟩ := s.fz e
    refine ⟨v, e1, G, ρ, s, (post_bind.mp (show Out.Post ((mb.bind _) ρ) _ _ from h)).imp (fun as ρ2 h2 u G2 H2 x2 r2 => h2 _ G2 H2 x2 (.cons (e2.mono x2.fr.ext) r2)) fun c ρ' e => e⟩
  · rename_i a e
    have e1 : σ[i]? = some (some (.ref a)) := s.ok i _ e
    refine ⟨.ref a, e1, G, ρ, s, (post_bind.mp (show Out.Post ((mb.bind _) ρ) _ _ from h)).imp (fun as ρ2 h2 u G2 H2 x2 r2 => h2 _ G2 H2 x2 (.cons e1 r2)) fun c ρ' e => e⟩
  · exact h.elim
/-- behind the arguments -/
theorem run_callG {pins : List (Addr × Obj)} {s : Shared} {σ : St} {H G : Hp} {ρ : Rho} {us : List Value} {vs : List V} {as : List Arg} {args : Args} {Q : VK} {n : Nat} (len : ∀ ss, (∃ r ss', F ss = .ok r ss') ∨ (∃ c ss', F ss = .err c ss') → ss.length = n)
    (go : ∀ E : XK, us.length = n → spF ⟨X.K, X.mg⟩ F vs H Q E → codeAny (model X.prog X.w) X.A (.call (.ref f) args) (CR (L2N.CX X.prog X.w) X.stack X.prog X.w H s Q E) s) (tk : L2N.Takes X W) (hΓ : Γ = ⟨X.K, X.mg⟩)
    (I : Inv X pins σ H s) (sr : SR Γ.K G H σ ρ) (rv : Vals vs us) (ra : ArgsOk Γ.K G σ vs as)
    (h : (callF F as ρ).Post (fun r ρ' => ∀ v G' H', Stp Γ.K G H σ ρ G' H' σ ρ' → RvOk Γ.K G H σ ρ G' H' σ ρ' v r → Q v H') (EW Γ W G H σ ρ)) :
    codeAny (model X.prog X.w) X.A (.call (.ref f) args) (fun r s' => match r with
      | .ok (.ret u) => EP X pins σ Q u s'
      | .ok _ => False
      | .error e => X.xe e s') s := by
  subst hΓ
  unfold callF at h
  by_cases nd : ndA as = true
  · rw [if_pos nd] at h
    cases hs : argSlots ρ as with
    | none => simp only [hs] at h; exact h.elim
    | some ss =>
      simp only [hs] at h
      have s0 := (call_in sr ra hs nd).1
      have sp : spF ⟨X.K, X.mg⟩ F vs H Q (fun cls dx H' => W cls dx σ H') := by
        refine ⟨G, ss, s0, ?_⟩
        unfold PostF
        cases hF : F ss with
        | bad => simp only [hF] at h; exact h.elim
        | err c ss' =>
          simp only [hF] at h
          cases hb' : backR as ss' ρ with
          | none => simp only [hb'] at h; exact h.elim
          | some ρ' =>
            simp only [hb'] at h
            exact fun cls dx G' H' x ex => h cls dx G' H' (call_out sr ra hs nd x hb').1 ex
        | ok r ss' =>
          simp only [hF] at h
          cases hb' : backR as ss' ρ with
          | none => simp only [hb'] at h; exact h.elim
          | some ρ' =>
            simp only [hb'] at h
            intro v G' H' x rv'
            obtain ⟨y, yo⟩ := call_out sr ra hs nd x hb'
            refine h v G' H' y ?_
            cases r with
            | un => exact rv'
            | ex _ => exact rv'
            | fz d => exact rv'
            | own c =>
              obtain ⟨a, u, e1, e2, e3, e4, e5, e6⟩ := rv'
              -- what is new to the callee is new here, or an argument's own: that is still its slot's
              have hn : H a = none := by
                rcases e6 with ⟨k', z⟩ | z
                · exfalso
                  -- an own argument stays own at its place
                  obtain ⟨c1, w1, w2⟩ := z
                  obtain ⟨i, p1, p2⟩ := (call_in sr ra hs nd).2 k' a ⟨c1, w1, w2⟩
                  obtain ⟨c2, q1, q2⟩ := p2
                  have hlen : k' < ss'.length := by
                    have l0 := x.sr.len
                    have l1 := s0.len
                    have : k' < ss.length := by
                      cases Nat.lt_or_ge k' ss.length with
                      | inl z => exact z
                      | inr z => rw [List.getElem?_eq_none z] at w1; cases w1
                    omega
                  have still : ∃ c3, ss'[k']? = some (Slot.own c3) := backR_own hb' p1 (by rw [q1]; rfl) hlen
                  obtain ⟨c3, r3⟩ := still
                  exact e5 ⟨k', c3, r3, w2⟩
                · exact z
              have nz : ¬ Ow σ ρ' a := fun z => by
                obtain ⟨i, c4, r1, r2⟩ := yo a z
                obtain ⟨b, u2, t1, t2, t3, t4⟩ := sr.own r1
                rw [r2] at t1; cases t1
                rw [hn] at t3; cases t3
              exact ⟨a, u, e1, e2, e3, e4, nz, .inr hn⟩
      have hl : us.length = n := by rw [← rv.length]; exact spF.len len sp
      refine codeAny_mono (go _ hl sp) fun r s' hq => ?_
      cases r with
      | error e => exact tk e s' (L2N.XE.of_call I (fun _ _ _ h => h) hq)
      | ok fl =>
        cases fl with
        | ret u => exact I.after hq
        | next => exact hq.elim
        | brk => exact hq.elim
        | cont => exact hq.elim
  · rw [if_neg nd] at h; exact h.elim
where
  backR_own : ∀ {as : List Arg} {ss ρ ρ' : Rho} {k i : Nat}, backR as ss ρ = some ρ' → as[k]? = some (Arg.rf i) → isOwn ρ[i]? = true → k < ss.length → ∃ c, ss[k]? = some (Slot.own c)
    | [], _, _, _, k, i, _, e, _, _ => by simp at e
    | .fz _ :: as, s :: ss, ρ, ρ', k, i, h, e, o, hl => by
      cases k with
      | zero => simp at e
      | succ k => exact backR_own (as := as) (ss := ss) (k := k) h (by simpa using e) o (by simpa using hl)
    | .rf j :: as, .own c :: ss, ρ, ρ', k, i, h, e, o, hl => by
      unfold backR at h
      split at h
      · rename_i ho
        cases k with
        | zero => exact ⟨c, rfl⟩
        | succ k =>
          refine backR_own (as := as) (ss := ss) (k := k) h (by simpa using e) ?_ (by simpa using hl)
          by_cases hij : j = i
          · subst hij
            have hlt : j < ρ.length := by
              cases Nat.lt_or_ge j ρ.length with
              | inl z => exact z
              | inr z => rw [List.getElem?_eq_none z] at o; cases o
            rw [List.getElem?_set_self hlt]; rfl
          · rw [List.getElem?_set_ne hij]; exact o
      · cases h
    | .rf j :: as, .fz _ :: ss, ρ, ρ', k, i, h, e, o, hl => by
      unfold backR at h
      split at h
      · cases h
      · rename_i ho
        cases k with
        | zero => simp at e; subst e; exact absurd o ho
        | succ k => exact backR_own (as := as) (ss := ss) (k := k) h (by simpa using e) o (by simpa using hl)
    | .rf j :: as, .ex _ :: ss, ρ, ρ', k, i, h, e, o, hl => by
      unfold backR at h
      split at h
      · cases h
      · rename_i ho
        cases k with
        | zero => simp at e; subst e; exact absurd o ho
        | succ k => exact backR_own (as := as) (ss := ss) (k := k) h (by simpa using e) o (by simpa using hl)
    | .fz _ :: _, [], _, _, _, _, h, _, _, _ => by cases h
    | .rf _ :: _, [], _, _, _, _, h, _, _, _ => by cases h
    | .rf _ :: _, .un :: _, _, _, _, _, h, _, _, _ => by cases h
theorem run_call {pins : List (Addr × Obj)} {s : Shared} {σ : St} {H G : Hp} {ρ : Rho} {us : List Value} {vs : List V} {as : List Arg} {args : Args} {Q : VK} (F0 : FnG X.prog X.w X.K X.mg X.base k f fd ps F) (hr : Room k X.A) (hgd : X.A.guards = some []) (tk : L2N.Takes X W) (hΓ : Γ = ⟨X.K, X.mg⟩)
    (I : Inv X pins σ H s) (sr : SR Γ.K G H σ ρ) (rv : Vals vs us) (ra : ArgsOk Γ.K G σ vs as) (hb : us.length = ps.length → BindsTo s fd args (ps.zip us))
    (h : (callF F as ρ).Post (fun r ρ' => ∀ v G' H', Stp Γ.K G H σ ρ G' H' σ ρ' → RvOk Γ.K G H σ ρ G' H' σ ρ' v r → Q v H') (EW Γ W G H σ ρ)) :
    codeAny (model X.prog X.w) X.A (.call (.ref f) args) (fun r s' => match r with
      | .ok (.ret u) => EP X pins σ Q u s'
      | .ok _ => False
      | .error e => X.xe e s') s :=
  run_callG F0.len (fun E hl sp => F0.go X.A X.stack s H args us vs Q E hr hgd I.env0 (hb hl) rv sp) tk hΓ I sr rv ra h
/-- a def that is called with n arguments, however it binds them -/
structure FnX (P : Program) (w : World) (K : PySem.W.Frag) (mg : Str → Option Value) (base : Heap) (k : Nat) (f : Addr) (n : Nat) (F : M Slot) : Prop where
  len : ∀ ss, (∃ r ss', F ss = .ok r ss') ∨ (∃ c ss', F ss = .err c ss') → ss.length = n
  go : ∀ (A : Around) (outer : List Env) (s : Shared) (H : Hp) (us : List Value) (vs : List V) (Q : VK) (E : XK), Room k A → A.guards = some [] → Env0 P w K mg base A outer s H →
    us.length = n → Vals vs us → spF ⟨K, mg⟩ F vs H Q E → codeAny (model P w) A (.call (.ref f) ⟨us, []⟩) (CR (L2N.CX P w) outer P w H s Q E) s
theorem FnX.up {P : Program} {w : World} {K : PySem.W.Frag} {mg : Str → Option Value} {base : Heap} {j k : Nat} {f : Addr} {n : Nat} {F : M Slot} (h : FnX P w K mg base j f n F) (le : j ≤ k) : FnX P w K mg base k f n F :=
  ⟨h.len, fun A outer s H us vs Q E hr => h.go A outer s H us vs Q E (hr.mono le)⟩
structure DefX (K : PySem.W.Frag) (mg : Str → Option Value) (x : Str) (f : Addr) : Prop where
  m : mg x = some (.ref f)
  kp : PySem.W.keepIn K (.ref f) = true
theorem dr_callX {n : Nat} (D0 : DefX X.K X.mg x f) (F0 : FnX X.prog X.w X.K X.mg X.base k f n F) (hr : Room k X.A) (hgd : X.A.guards = some []) (tk : L2N.Takes X W) (hg : Gl X x) (ha : PA X (e :: es) (tA Γ W m)) (hΓ : Γ = ⟨X.K, X.mg⟩ := by rfl)
    (hdb : (x == ("__debug__" : Str)) = false := by decide) (he : starEach (e :: es) X.env = (false, eval e X.env) :: starEach es X.env := by rfl) (hpl : (backTo pos (starEach es X.env)).any (·.1) = false := by rfl) :
    PE X (.Call (.Name x p) (e :: es) [] pos) (tR Γ W (eCallF F m)) := by
  refine ⟨fun pins s σ H Q I ⟨G, ρ, sr, h⟩ => ?_⟩
  refine wpAny_Call_Name_kw (ld_glob I hg D0.m ?_ hdb)
  refine PySem.W.callWith_K (h₀ := X.base) I.ok.mod.kin D0.kp (thn (ha.run pos pins s σ H (fun vs H1 => ∃ G1 ρ1 as, Stp Γ.K G H σ ρ G1 H1 σ ρ1 ∧ ArgsOk Γ.K G1 σ vs as ∧
      (callF F as ρ1).Post (fun r ρ' => ∀ v G' H', Stp Γ.K G H σ ρ G' H' σ ρ' → RvOk Γ.K G H σ ρ G' H' σ ρ' v r → Q v H') (EW Γ W G H σ ρ)) I
      ⟨G, ρ, sr, (post_bind.mp h).imp (fun as ρ1 h1 vs G1 H1 x1 r1 => ⟨G1, ρ1, as, x1, r1, h1⟩) fun _ _ e => e⟩) fun us s1 ⟨vs, H1, I1, r, G1, ρ1, as, x1, ra, q⟩ => ⟨I1.kIn, ?_⟩) he hpl
  refine wpAny_call (codeAny_mono (run_callG (args := ⟨us, []⟩) F0.len (fun E hl sp => F0.go X.A X.stack s1 H1 us vs Q E hr hgd I1.env0 hl r sp) tk hΓ I1 x1.sr r ra (q.imp (fun r ρ2 h2 v G2 H2 x2 rv => h2 v G2 H2 (x1.tr x2) (RvOk.tr x1 rv)) fun _ _ e => e.tr x1)) fun r s' hq => ?_)
  cases r with
  | error e => exact hq
  | ok fl => cases fl <;> first | exact hq | exact hq.elim
/-- f(e, ..) -/
theorem dr_call (D0 : Def X.K X.mg x f fd ps) (F0 : FnG X.prog X.w X.K X.mg X.base k f fd ps F) (hr : Room k X.A) (hgd : X.A.guards = some []) (tk : L2N.Takes X W) (hg : Gl X x) (ha : PA X (e :: es) (tA Γ W m)) (hΓ : Γ = ⟨X.K, X.mg⟩ := by rfl)
    (hdb : (x == ("__debug__" : Str)) = false := by decide) (he : starEach (e :: es) X.env = (false, eval e X.env) :: starEach es X.env := by rfl) (hpl : (backTo pos (starEach es X.env)).any (·.1) = false := by rfl) :
    PE X (.Call (.Name x p) (e :: es) [] pos) (tR Γ W (eCallF F m)) := by
  refine ⟨fun pins s σ H Q I ⟨G, ρ, sr, h⟩ => ?_⟩
  refine wpAny_Call_Name_kw (ld_glob I hg D0.m ?_ hdb)
  refine PySem.W.callWith_K (h₀ := X.base) I.ok.mod.kin D0.kp (thn (ha.run pos pins s σ H (fun vs H1 => ∃ G1 ρ1 as, Stp Γ.K G H σ ρ G1 H1 σ ρ1 ∧ ArgsOk Γ.K G1 σ vs as ∧
      (callF F as ρ1).Post (fun r ρ' => ∀ v G' H', Stp Γ.K G H σ ρ G' H' σ ρ' → RvOk Γ.K G H σ ρ G' H' σ ρ' v r → Q v H') (EW Γ W G H σ ρ)) I
      ⟨G, ρ, sr, (post_bind.mp h).imp (fun as ρ1 h1 vs G1 H1 x1 r1 => ⟨G1, ρ1, as, x1, r1, h1⟩) fun _ _ e => e⟩) fun us s1 ⟨vs, H1, I1, r, G1, ρ1, as, x1, ra, q⟩ => ⟨I1.kIn, ?_⟩) he hpl
  refine wpAny_call (codeAny_mono (run_call (args := ⟨us, []⟩) F0 hr hgd tk hΓ I1 x1.sr r ra (D0.b s1 us) (q.imp (fun r ρ2 h2 v G2 H2 x2 rv => h2 v G2 H2 (x1.tr x2) (RvOk.tr x1 rv)) fun _ _ e => e.tr x1)) fun r s' hq => ?_)
  cases r with
  | error e => exact hq
  | ok fl => cases fl <;> first | exact hq | exact hq.elim
theorem dr_call0 (D0 : Def X.K X.mg x f fd ps) (F0 : FnG X.prog X.w X.K X.mg X.base k f fd ps F) (hr : Room k X.A) (hgd : X.A.guards = some []) (tk : L2N.Takes X W) (hg : Gl X x) (hΓ : Γ = ⟨X.K, X.mg⟩ := by rfl)
    (hdb : (x == ("__debug__" : Str)) = false := by decide) :
    PE X (.Call (.Name x p) [] [] pos) (tR Γ W (eCallF F eNil)) := by
  refine ⟨fun pins s σ H Q I ⟨G, ρ, sr, h⟩ => ?_⟩
  refine wpAny_Call_Name_kw (ld_glob I hg D0.m ?_ hdb)
  refine PySem.W.callWith_K0 I.kIn D0.kp ?_
  refine wpAny_call (codeAny_mono (run_call (args := ⟨[], []⟩) F0 hr hgd tk hΓ I sr .nil .nil (D0.b s []) (show (callF F [] ρ).Post _ _ from h)) fun r s' hq => ?_)
  cases r with
  | error e => exact hq
  | ok fl => cases fl <;> first | exact hq | exact hq.elim
end

/-! ### keywords -/
section
variable {X : Cx} {Γ : Gm} {W : WX} {k : Nat} {f : Addr} {fd : FuncData} {ps ks : List Str} {F : M Slot} {x : Str} {p pos kpos : Pos} {e : Expr} {es : List Expr} {m mk : M (List Arg)} {kws : List Keyword} {is : List Nat} {n : Nat} {nm : Option Str}
theorem PK.imp {kws : List Keyword} {t t' : TA} (h : PK X kws t) (k : ∀ σ H Q, t' σ H Q → t σ H Q) : PK X kws t' := ⟨fun p pins s σ H Q I q => h.run p pins s σ H Q I (k _ _ _ q)⟩
theorem dk_nil : PK X [] (tA Γ W eNil) := PK.imp pk_nil fun σ H Q ⟨G, ρ, s, h⟩ => h [] G H (Stp.rfl s) .nil
theorem dk_fz {ma : M D} {mb : M (List Arg)} (ha : PE X e (tD Γ W ma)) (hb : PK X kws (tA Γ W mb)) : PK X (⟨nm, e, kpos⟩ :: kws) (tA Γ W (eCons (aFz ma) mb)) := by
  refine PK.imp (pk_cons ha hb) fun σ H Q ⟨G, ρ, s, h⟩ => ⟨G, ρ, s, (post_bind.mp (post_bind.mp h)).imp (fun d ρ1 h1 v G1 H1 x1 r1 => ?_) fun c ρ' e => e⟩
  refine ⟨G1, ρ1, x1.sr, (post_bind.mp (show Out.Post ((mb.bind _) ρ1) _ _ from h1)).imp (fun as ρ2 h2 u G2 H2 x2 r2 => h2 _ G2 H2 (x1.tr x2) (.cons (r1.mono x2.fr.ext) r2)) fun c ρ' e => e.tr x1⟩
def eApp (a b : M (List Arg)) : M (List Arg) := a.bind fun xs => b.bind fun ys => M.ret (xs ++ ys)
theorem ArgsOk.mono {K : PySem.W.Frag} {G G' : Hp} {σ : St} (e : Sub G G') {vs : List V} {as : List Arg} (h : ArgsOk K G σ vs as) : ArgsOk K G' σ vs as :=
  Paired.mapP h fun v a q => by
    cases a with
    | fz d => exact Rp.mono e q
    | rf i => exact q
theorem ArgsOk.app {K : PySem.W.Frag} {G : Hp} {σ : St} : ∀ {vs ws : List V} {as bs : List Arg}, ArgsOk K G σ vs as → ArgsOk K G σ ws bs → ArgsOk K G σ (vs ++ ws) (as ++ bs)
  | _, _, _, _, .nil, h => h
  | _, _, _, _, .cons r t, h => .cons r (ArgsOk.app t h)
/-- f(e, .., k = v, ..) -/
theorem dr_callK (D0 : Def X.K X.mg x f fd ps) (F0 : FnG X.prog X.w X.K X.mg X.base k f fd ps F) (hr : Room k X.A) (hgd : X.A.guards = some []) (tk : L2N.Takes X W) (hg : Gl X x) (kb : KB fd ps ks n is) (hn : (e :: es).length = n) (ha : PA X (e :: es) (tA Γ W m)) (hk : PK X kws (tA Γ W mk)) (hΓ : Γ = ⟨X.K, X.mg⟩ := by rfl)
    (hall : (backToKw pos (keywordEach kws X.env)).all (·.1.isSome) = true := by rfl) (hks : (backToKw pos (keywordEach kws X.env)).filterMap (·.1) = ks := by rfl)
    (hdb : (x == ("__debug__" : Str)) = false := by decide) (he : starEach (e :: es) X.env = (false, eval e X.env) :: starEach es X.env := by rfl)
    (hpl : ((backTo pos (starEach (e :: es) X.env)).any (·.1) || (backToKw pos (keywordEach kws X.env)).any (·.1.isNone)) = false := by rfl)
    (hc : ∀ as ρ ρ', m ρ = .ok as ρ' → as.length = n) (hc2 : ∀ as ρ ρ', mk ρ = .ok as ρ' → as.length = ks.length) :
    PE X (.Call (.Name x p) (e :: es) kws pos) (tR Γ W (eCallF F (mPick is (eApp m mk)))) := by
  refine ⟨fun pins s σ H Q I ⟨G, ρ, sr, h⟩ => ?_⟩
  refine wpAny_Call_Name_kw (ld_glob I hg D0.m ?_ hdb)
  have h' := post_bind.mp (post_bind.mp (post_bind.mp h))
  refine PySem.W.callWith_KW (h₀ := X.base) I.ok.mod.kin D0.kp hall (thn (ha.run pos pins s σ H (fun vs H1 => ∃ G1 ρ1 as, Stp Γ.K G H σ ρ G1 H1 σ ρ1 ∧ ArgsOk Γ.K G1 σ vs as ∧ as.length = n ∧
      (mk ρ1).Post (fun bs ρ2 => (callF F (pick (as ++ bs) is) ρ2).Post (fun r ρ' => ∀ v G' H', Stp Γ.K G H σ ρ G' H' σ ρ' → RvOk Γ.K G H σ ρ G' H' σ ρ' v r → Q v H') (EW Γ W G H σ ρ)) (EW Γ W G H σ ρ)) I
      ⟨G, ρ, sr, ?_⟩) fun us s1 ⟨vs, H1, I1, r, G1, ρ1, as, x1, ra, ln, q⟩ => ?_) hpl he
  · revert h'
    cases hm : m ρ with
    | bad => exact fun h' => h'.elim
    | err c ρ' => exact fun h' => h'
    | ok as ρ1 => exact fun h' vs G1 H1 x1 r1 => ⟨G1, ρ1, as, x1, r1, hc as ρ ρ1 hm, (post_bind (m := mk) (f := fun ys => M.ret (as ++ ys))).mp h'⟩
  · refine thn (hk.run pos pins s1 σ H1 (fun ws H2 => ∃ G2 ρ2 bs, Stp Γ.K G H σ ρ G2 H2 σ ρ2 ∧ ArgsOk Γ.K G2 σ ws bs ∧ ArgsOk Γ.K G2 σ vs as ∧ bs.length = ks.length ∧
      (callF F (pick (as ++ bs) is) ρ2).Post (fun r ρ' => ∀ v G' H', Stp Γ.K G H σ ρ G' H' σ ρ' → RvOk Γ.K G H σ ρ G' H' σ ρ' v r → Q v H') (EW Γ W G H σ ρ)) I1 ⟨G1, ρ1, x1.sr, ?_⟩) fun zs s2 ⟨ws, H2, I2, rz, G2, ρ2, bs, x2, rb, ra2, lk, q2⟩ => ⟨I2.kIn, ?_⟩
    · revert q
      cases hm : mk ρ1 with
      | bad => exact fun q => q.elim
      | err c ρ' => exact fun q => EW.tr x1 q
      | ok bs ρ2 => exact fun q ws G2 H2 x2 r2 => ⟨G2, ρ2, bs, x1.tr x2, r2, ArgsOk.mono x2.fr.ext ra, hc2 bs ρ1 ρ2 hm, q⟩
    · rw [hks]
      have rall : Vals (pick (vs ++ ws) is) (pick (us ++ zs) is) := pick_rel (Vals.append r rz) is
      have lu : us.length = n := by rw [← r.length, (argsOk_at ra).1]; exact ln
      have lz : zs.length = ks.length := by rw [← rz.length, (argsOk_at rb).1]; exact lk
      refine wpAny_call (codeAny_mono (run_call (args := ⟨us, ks.zip zs⟩) F0 hr hgd tk hΓ I2 x2.sr rall (pick_rel (ArgsOk.app ra2 rb) is) (fun _ => kb s2 us zs lu lz) (q2.imp (fun r ρ2 h2 v G2 H2 x3 rv => h2 v G2 H2 (x2.tr x3) (RvOk.tr x2 rv)) fun _ _ e => e.tr x2)) fun r s' hq => ?_)
      cases r with
      | error e => exact hq
      | ok fl => cases fl <;> first | exact hq | exact hq.elim
/-- f(k = v, ..) -/
theorem dr_callK0 (D0 : Def X.K X.mg x f fd ps) (F0 : FnG X.prog X.w X.K X.mg X.base k f fd ps F) (hr : Room k X.A) (hgd : X.A.guards = some []) (tk : L2N.Takes X W) (hg : Gl X x) (kb : KB fd ps ks 0 is) (hk : PK X kws (tA Γ W mk)) (hΓ : Γ = ⟨X.K, X.mg⟩ := by rfl)
    (hall : (backToKw pos (keywordEach kws X.env)).all (·.1.isSome) = true := by rfl) (hks : (backToKw pos (keywordEach kws X.env)).filterMap (·.1) = ks := by rfl)
    (hdb : (x == ("__debug__" : Str)) = false := by decide)
    (hpl : ((backTo pos (starEach [] X.env)).any (·.1) || (backToKw pos (keywordEach kws X.env)).any (·.1.isNone)) = false := by rfl)
    (hc2 : ∀ as ρ ρ', mk ρ = .ok as ρ' → as.length = ks.length) :
    PE X (.Call (.Name x p) [] kws pos) (tR Γ W (eCallF F (mPick is mk))) := by
  refine ⟨fun pins s σ H Q I ⟨G, ρ, sr, h⟩ => ?_⟩
  refine wpAny_Call_Name_kw (ld_glob I hg D0.m ?_ hdb)
  have h' := post_bind.mp (post_bind.mp h)
  refine PySem.W.callWith_KW0 (h₀ := X.base) I.ok.mod.kin D0.kp hall (thn (hk.run pos pins s σ H (fun ws H2 => ∃ G2 ρ2 bs, Stp Γ.K G H σ ρ G2 H2 σ ρ2 ∧ ArgsOk Γ.K G2 σ ws bs ∧ bs.length = ks.length ∧
      (callF F (pick bs is) ρ2).Post (fun r ρ' => ∀ v G' H', Stp Γ.K G H σ ρ G' H' σ ρ' → RvOk Γ.K G H σ ρ G' H' σ ρ' v r → Q v H') (EW Γ W G H σ ρ)) I ⟨G, ρ, sr, ?_⟩) fun zs s2 ⟨ws, H2, I2, rz, G2, ρ2, bs, x2, rb, lk, q2⟩ => ⟨I2.kIn, ?_⟩) hpl
  · revert h'
    cases hm : mk ρ with
    | bad => exact fun q => q.elim
    | err c ρ' => exact fun q => q
    | ok bs ρ2 => exact fun q ws G2 H2 x2 r2 => ⟨G2, ρ2, bs, x2, r2, hc2 bs ρ ρ2 hm, q⟩
  · rw [hks]
    have rall : Vals (pick ws is) (pick zs is) := pick_rel rz is
    have lz : zs.length = ks.length := by rw [← rz.length, (argsOk_at rb).1]; exact lk
    refine wpAny_call (codeAny_mono (run_call (args := ⟨[] ++ [], ks.zip zs⟩) F0 hr hgd tk hΓ I2 x2.sr rall (pick_rel rb is) (fun _ => kb s2 [] zs rfl lz) (q2.imp (fun r ρ2 h2 v G2 H2 x3 rv => h2 v G2 H2 (x2.tr x3) (RvOk.tr x2 rv)) fun _ _ e => e.tr x2)) fun r s' hq => ?_)
    cases r with
    | error e => exact hq
    | ok fl => cases fl <;> first | exact hq | exact hq.elim
end

/-! ### a call's value -/
def ofR (m : M Slot) : M D := m.bind fun r => match r with
  | .fz d => M.ret d
  | .own (.lst ds) => M.ret (.list ds)
  | _ => M.fail
def ownR (m : M Slot) : M OC := m.bind fun r => match r with
  | .own c => M.ret c
  | _ => M.fail
section
variable {X : Cx} {Γ : Gm} {W : WX} {e : Expr} {m : M Slot}
theorem de_r (h : PE X e (tR Γ W m)) : PE X e (tD Γ W (ofR m)) := by
  refine PE.imp h fun σ H Q ⟨G, ρ, s, h⟩ => ⟨G, ρ, s, (post_bind.mp h).imp (fun r ρ1 h1 v G1 H1 x1 r1 => ?_) fun c ρ' e => e⟩
  cases r with
  | un => exact h1.elim
  | ex _ => exact h1.elim
  | fz d => exact h1 v G1 H1 x1 r1
  | own c =>
    cases c with
    | dK _ => exact h1.elim
    | dT _ => exact h1.elim
    | dN _ => exact h1.elim
    | lst ds =>
      obtain ⟨p, u, rfl, g, hp, oc, n, f⟩ := r1
      have st := x1.own_freeze g hp n f
      cases oc with
      | lst q => exact h1 _ _ _ st (.lst upd_same (q.mono (Sub.upd g)))
theorem do_r (h : PE X e (tR Γ W m)) : PE X e (tO Γ W (ownR m)) := by
  refine PE.imp h fun σ H Q ⟨G, ρ, s, h⟩ => ⟨G, ρ, s, (post_bind.mp h).imp (fun r ρ1 h1 v G1 H1 x1 r1 => ?_) fun c ρ' e => e⟩
  cases r with
  | un => exact h1.elim
  | ex _ => exact h1.elim
  | fz d => exact h1.elim
  | own c => exact h1 v G1 H1 x1 r1
end
end DL

/-! DLg: operations on data. -/
namespace DL
open PySem PySem.Spec L2

section
variable {K : PySem.W.Frag}
theorem R2P.or1 {r r' : R2} {g : D → D → Option D} (h : R2P K r g) : R2P K (fun x y H Q => r x y H Q ∨ r' x y H Q) g := fun G H x y d e z Q s a b c q => .inl (h G H x y d e z Q s a b c q)
theorem scal_ret {G H : Hp} (s : Sub G H) {Q : VK} {v : V} {d : D} (r : ∀ G, Rp K G v d) (q : ∀ v G' H', Ext0 G H G' H' → Rp K G' v d → Q v H') : Q v H := q v G H (Ext0.rfl s) (r G)
end

/-! ### arithmetic -/
def intOp (f : Int → Int → Int) (c : Int → Int → Bool) : D → D → Option D
  | .int i, .int j => if c i j then some (.int (f i j)) else none
  | _, _ => none
theorem int_r2 {K : PySem.W.Frag} {C : Int → Int → Prop} {f : Int → Int → Int} {c : Int → Int → Bool} (h : ∀ i j, c i j = true → C i j) : R2P K (rI C fun i j => .int (f i j)) (intOp f c) := by
  intro G H x y d e z Q s rx ry hz q
  unfold intOp at hz
  split at hz
  · split at hz
    · rename_i hc
      cases hz; cases rx; cases ry
      exact ⟨_, _, rfl, rfl, h _ _ hc, scal_ret s (fun _ => .int _) q⟩
    · cases hz
  · cases hz
def gAdd : D → D → Option D
  | .int i, .int j => some (.int (i + j))
  | .str a, .str b => if a.length + b.length ≤ 16777216 then some (.str (a ++ b)) else none
  | .list xs, .list ys => if xs.length + ys.length ≤ 16777216 then some (.list (xs ++ ys)) else none
  | .tuple xs, .tuple ys => if xs.length + ys.length ≤ 16777216 then some (.tuple (xs ++ ys)) else none
  | _, _ => none
def rAddD (K : PySem.W.Frag) : R2 := fun x y H Q => ((rI0 fun i j => .int (i + j)) x y H Q ∨ (∃ i j, x = .str i ∧ y = .str j ∧ i.length + j.length ≤ sizeLine ∧ Q (.str (i ++ j)) H)) ∨ (rCat x y H Q ∨ rCatA K x y H Q)
theorem op_addD {X : Cx} : OpR X (binaryOp .Add) (rAddD X.K) := (op_add.or op_add_str).or (op_cat.or op_catA)
theorem addD_r2 {K : PySem.W.Frag} : R2P K (rAddD K) gAdd := by
  intro G H x y d e z Q s rx ry hz q
  unfold gAdd at hz
  split at hz
  · cases hz; cases rx; cases ry
    exact .inl (.inl ⟨_, _, rfl, rfl, scal_ret s (fun _ => .int _) q⟩)
  · split at hz
    · rename_i hl
      cases hz; cases rx; cases ry
      exact .inl (.inr ⟨_, _, rfl, rfl, size_line hl, scal_ret s (fun _ => .str _) q⟩)
    · cases hz
  · split at hz
    · rename_i hl
      cases hz
      cases rx with | lst g1 r1 =>
      cases ry with | lst g2 r2 =>
      refine .inr (.inl ⟨_, _, _, _, rfl, rfl, s _ _ g1, s _ _ g2, size_line (by rw [r1.length, r2.length]; exact hl), fun p np => ?_⟩)
      exact q _ _ _ (Ext0.new s np) (.lst upd_same ((r1.append r2).mono (Sub.upd (s.none np))))
    · cases hz
  · split at hz
    · rename_i xs ys hl
      cases hz
      cases rx with | @tup a1 _ _ g1 r1 =>
      cases ry with | @tup a2 _ _ g2 r2 =>
      refine .inr (.inr ⟨_, _, _, _, rfl, rfl, s.seqT g1, s.seqT g2, size_line (by rw [r1.length, r2.length]; exact hl), fun e => ?_, fun _ e => ?_, fun _ _ p np => ?_⟩)
      · subst e
        cases xs with
        | nil => exact q _ _ _ (Ext0.rfl s) (.tup g2 r2)
        | cons _ _ => cases r1
      · subst e
        cases ys with
        | nil => rw [List.append_nil] at q; exact q _ _ _ (Ext0.rfl s) (.tup g1 r1)
        | cons _ _ => cases r2
      · exact q _ _ _ (Ext0.new s np) (.tup upd_same ((r1.append r2).mono (Sub.upd (s.none np))))
    · cases hz
  · cases hz
def gSub : D → D → Option D := intOp (fun i j => i - j) fun _ _ => true
theorem op_subD {X : Cx} : OpR X (binaryOp .Sub) (rI (fun _ _ => True) fun i j => .int (i - j)) := fun pins s σ H x y v u Q I rx ry ⟨i, j, e1, e2, _, q⟩ => op_sub pins s σ H x y v u Q I rx ry ⟨i, j, e1, e2, q⟩
theorem subD_r2 {K : PySem.W.Frag} : R2P K (rI (fun _ _ => True) fun i j => .int (i - j)) gSub := int_r2 fun _ _ _ => trivial
/-- one factor below 2^64, or both of bounded size -/
def okMul (i j : Int) : Bool := decide (j.natAbs < 2 ^ 64) || decide (i.natAbs < 2 ^ 64) || decide (i.natAbs.log2 + j.natAbs.log2 < 1000000)
def gMul : D → D → Option D
  | .int i, .int j => if okMul i j then some (.int (i * j)) else none
  | .list xs, .int k => if -(2 ^ 63) ≤ k ∧ k < 2 ^ 63 ∧ xs.length * k.toNat ≤ 16777216 then some (.list (List.replicate k.toNat xs).flatten) else none
  | _, _ => none
def rMulD : R2 := fun x y H Q => (rI CMul (fun i j => .int (i * j)) x y H Q ∨ rI CMulW (fun i j => .int (i * j)) x y H Q) ∨ rRep x y H Q
theorem op_mulD {X : Cx} : OpR X (binaryOp .Mult) rMulD := (op_mul.or op_mulW).or op_rep
theorem RpAll.rep {K : PySem.W.Frag} {G : Hp} {xs : List V} {ds : List D} (h : RpAll K G xs ds) : ∀ k : Nat, RpAll K G (List.replicate k xs).flatten (List.replicate k ds).flatten
  | 0 => .nil
  | k + 1 => by
    rw [List.replicate_succ, List.replicate_succ, List.flatten_cons, List.flatten_cons]
    exact h.append (RpAll.rep h k)
theorem mulD_r2 {K : PySem.W.Frag} : R2P K rMulD gMul := by
  intro G H x y d e z Q s rx ry hz q
  unfold gMul at hz
  split at hz
  · split at hz
    · rename_i i j hc
      cases hz; cases rx; cases ry
      unfold okMul at hc
      simp only [Bool.or_eq_true, decide_eq_true_eq] at hc
      rcases hc with (hc | hc) | hc
      · exact .inl (.inl ⟨_, _, rfl, rfl, .inr (by omega), scal_ret s (fun _ => .int _) q⟩)
      · exact .inl (.inl ⟨_, _, rfl, rfl, .inl (by omega), scal_ret s (fun _ => .int _) q⟩)
      · exact .inl (.inr ⟨_, _, rfl, rfl, hc, scal_ret s (fun _ => .int _) q⟩)
    · cases hz
  · split at hz
    · rename_i xs k hc
      cases hz
      cases rx with | lst g1 r1 =>
      cases ry
      refine .inr ⟨_, _, _, rfl, rfl, s _ _ g1, hc.1, hc.2.1, size_line (by rw [r1.length]; exact hc.2.2), fun p np => ?_⟩
      exact q _ _ _ (Ext0.new s np) (.lst upd_same ((r1.rep _).mono (Sub.upd (s.none np))))
    · cases hz
  · cases hz
def gFdiv : D → D → Option D := intOp (fun i j => i / j) fun i j => decide (0 < j ∧ j.natAbs.log2 < 9000)
theorem fdivD_r2 {K : PySem.W.Frag} : R2P K (rI CDivW fun i j => .int (i / j)) gFdiv := int_r2 fun i j h => by simpa [CDivW] using h
def gMod : D → D → Option D := intOp (fun i j => i % j) fun i j => decide (0 < j)
theorem modD_r2 {K : PySem.W.Frag} : R2P K (rI (fun _ j => 0 < j) fun i j => .int (i % j)) gMod := int_r2 fun i j h => by simpa using h
def CPowD (i j : Int) : Prop := 0 ≤ j ∧ j ≤ 1000 ∧ i.natAbs < 2 ^ 250
theorem bits_le {i : Int} {n : Nat} (h : i.natAbs < 2 ^ n) : Builtin.Int.intBits i ≤ n := by
  unfold Builtin.Int.intBits
  by_cases h0 : i = 0
  · simp [h0]
  · have := (Nat.log2_lt (show i.natAbs ≠ 0 by omega)).mpr h
    rw [if_neg (by simpa using h0)]
    omega
theorem op_powD {X : Cx} : OpR X (binaryOp .Pow) (rI CPowD fun i j => .int (i ^ j.toNat)) := opI fun i j _ _ _ _ _ hc q => PyProof.Rows.pow_int hc.1 (by
  have h1 := bits_le hc.2.2
  have h2 := hc.2.1
  have h0 := hc.1
  have h3 : (Builtin.Int.intBits i : Int) ≤ 250 := by omega
  have h4 : (Builtin.Int.intBits i : Int) * j ≤ 250 * 1000 := Int.mul_le_mul h3 h2 h0 (by decide)
  omega) q
def gPow : D → D → Option D := intOp (fun i j => i ^ j.toNat) fun i j => decide (0 ≤ j ∧ j ≤ 1000 ∧ i.natAbs < 2 ^ 250)
theorem powD_r2 {K : PySem.W.Frag} : R2P K (rI CPowD fun i j => .int (i ^ j.toNat)) gPow := int_r2 fun i j h => by
  have h' := of_decide_eq_true h
  exact h'
def gNeg : D → Option D
  | .int i => some (.int (-i))
  | _ => none
theorem negD_u {K : PySem.W.Frag} : RUP K (rU fun i => .int (-i)) gNeg := by
  intro G H x d z Q s rx hz q
  unfold gNeg at hz
  split at hz
  · cases hz; cases rx; exact ⟨_, rfl, scal_ret s (fun _ => .int _) q⟩
  · cases hz

/-! ### comparisons -/
def gEq (d e : D) : Option D := if SeqAt.shaped d && SeqAt.shaped e then some (.bool (PyData.eqv d e)) else none
def gNe (d e : D) : Option D := if SeqAt.shaped d && SeqAt.shaped e then some (.bool (!PyData.eqv d e)) else none
theorem Rp.dpH {K : PySem.W.Frag} {G H : Hp} (s : Sub G H) {v : V} {d : D} (r : Rp K G v d) (h : SeqAt.shaped d = true) : Dp K H v d := (r.mono s).dp (SeqAt.canLay_of_shaped h)
theorem eqD_r2 {K : PySem.W.Frag} : R2P K (rEqD K) gEq := by
  intro G H x y d e z Q s rx ry hz q
  unfold gEq at hz
  split at hz
  · rename_i hc
    cases hz
    rw [Bool.and_eq_true] at hc
    exact ⟨d, e, rx.dpH s hc.1, ry.dpH s hc.2, hc.1, hc.2, scal_ret s (fun _ => .bl _) q⟩
  · cases hz
theorem neD_r2 {K : PySem.W.Frag} : R2P K (rNeD K) gNe := by
  intro G H x y d e z Q s rx ry hz q
  unfold gNe at hz
  split at hz
  · rename_i hc
    cases hz
    rw [Bool.and_eq_true] at hc
    exact ⟨d, e, rx.dpH s hc.1, ry.dpH s hc.2, hc.1, hc.2, scal_ret s (fun _ => .bl _) q⟩
  · cases hz
def intCmp (p : Int → Int → Bool) : D → D → Option D
  | .int i, .int j => some (.bool (p i j))
  | _, _ => none
theorem cmpD_r2 {K : PySem.W.Frag} {p : Int → Int → Bool} : R2P K (rI0 fun i j => .bl (p i j)) (intCmp p) := by
  intro G H x y d e z Q s rx ry hz q
  unfold intCmp at hz
  split at hz
  · cases hz; cases rx; cases ry
    exact ⟨_, _, rfl, rfl, scal_ret s (fun _ => .bl _) q⟩
  · cases hz
def gLt := intCmp fun i j => decide (i < j)
def gLe := intCmp fun i j => decide (i ≤ j)
def gGt := intCmp fun i j => decide (j < i)
def gGe := intCmp fun i j => decide (j ≤ i)
def isNon : D → Bool
  | .none => true
  | _ => false
def gIs (d e : D) : Option D := match e with
  | .none => some (.bool (isNon d))
  | _ => none
def gIsN (d e : D) : Option D := match e with
  | .none => some (.bool (!isNon d))
  | _ => none
theorem isNon_eq {K : PySem.W.Frag} {G : Hp} {v : V} {d : D} (r : Rp K G v d) : decide (v = .non) = isNon d := by
  cases r <;> rfl
theorem isD_r2 {K : PySem.W.Frag} : R2P K (fun x y H Q => y = .non ∧ Q (.bl (decide (x = .non))) H) gIs := by
  intro G H x y d e z Q s rx ry hz q
  unfold gIs at hz
  split at hz
  · cases hz; cases ry
    refine ⟨rfl, ?_⟩
    rw [isNon_eq rx]
    exact scal_ret s (fun _ => .bl _) q
  · cases hz
theorem isND_r2 {K : PySem.W.Frag} : R2P K (fun x y H Q => y = .non ∧ Q (.bl (!decide (x = .non))) H) gIsN := by
  intro G H x y d e z Q s rx ry hz q
  unfold gIsN at hz
  split at hz
  · cases hz; cases ry
    refine ⟨rfl, ?_⟩
    rw [isNon_eq rx]
    exact scal_ret s (fun _ => .bl _) q
  · cases hz
/-- x in y -/
def inD (x : D) (ys : List D) : Bool := ys.any fun z => PyData.eqv z x
def memD : D → D → Option Bool
  | x, .list ys => if SeqAt.shaped x && SeqAt.shaped (.list ys) then some (inD x ys) else none
  | x, .tuple ys => if SeqAt.shaped x && SeqAt.shaped (.tuple ys) then some (inD x ys) else none
  | .str x, .str y => if x.cps.size = 1 then some (decide (x.cps.getD 0 0 ∈ y.cps.toList)) else none
  | _, _ => none
def gIn (x y : D) : Option D := (memD x y).map .bool
def gNotIn (x y : D) : Option D := (memD x y).map fun b => .bool !b
def rMemT (K : PySem.W.Frag) (neg : Bool) : R2 := fun x y H Q => ∃ d ds, Dp K H x d ∧ Dp K H y (.tuple ds) ∧ SeqAt.shaped d = true ∧ SeqAt.shaped (.tuple ds) = true ∧ Q (.bl (if neg then !inD d ds else inD d ds)) H
theorem room_inT {A : Around} {xs : List PyData} {d : PyData} (hd : SeqAt.shaped d = true) (hu : A.units + 65 < cLine) : A.units + 1 + min (PyData.depthAll xs) d.depth < cLine := by
  have h1 := SeqAt.depth_of_shaped hd
  have h2 : min (PyData.depthAll xs) d.depth ≤ d.depth := Nat.min_le_right _ _
  omega
theorem op_inT {X : Cx} (hu : X.A.units + 65 < cLine) : OpR X (compareOp .In) (rMemT X.K false) := by
  intro pins s σ H x y v u Q I rx ry h
  obtain ⟨d, ds, hd, he, sd, se, q⟩ := h
  obtain ⟨as, r1⟩ := Dp.reads I d x v hd rx
  obtain ⟨bs, r2⟩ := Dp.reads I (.tuple ds) y u he ry
  exact SeqAt.in_tuple_reads r2 r1 (SeqAt.canLay_of_shaped se) (SeqAt.canLay_of_shaped sd) (room_inT sd hu) ⟨.bl _, H, I, rfl, q⟩
theorem op_notInT {X : Cx} (hu : X.A.units + 65 < cLine) : OpR X (compareOp .NotIn) (rMemT X.K true) := by
  intro pins s σ H x y v u Q I rx ry h
  obtain ⟨d, ds, hd, he, sd, se, q⟩ := h
  obtain ⟨as, r1⟩ := Dp.reads I d x v hd rx
  obtain ⟨bs, r2⟩ := Dp.reads I (.tuple ds) y u he ry
  exact SeqAt.notIn_tuple_reads r2 r1 (SeqAt.canLay_of_shaped se) (SeqAt.canLay_of_shaped sd) (room_inT sd hu) ⟨.bl _, H, I, rfl, q⟩
def rInDD (K : PySem.W.Frag) : R2 := fun x y H Q => (L2.rInD K x y H Q ∨ rMemT K false x y H Q) ∨ (∃ (c : Nat) (z : Str), x = .str ⟨#[c]⟩ ∧ y = .str z ∧ Q (.bl (decide (c ∈ z.cps.toList))) H)
def rNotInDD (K : PySem.W.Frag) : R2 := fun x y H Q => (L2.rNotInD K x y H Q ∨ rMemT K true x y H Q) ∨ (∃ (c : Nat) (z : Str), x = .str ⟨#[c]⟩ ∧ y = .str z ∧ Q (.bl (!decide (c ∈ z.cps.toList))) H)
theorem op_inDD {X : Cx} (hu : X.A.units + 65 < cLine) : OpR X (compareOp .In) (rInDD X.K) := ((L2.op_inD hu).or (op_inT hu)).or op_in_sign
theorem op_notInDD {X : Cx} (hu : X.A.units + 65 < cLine) : OpR X (compareOp .NotIn) (rNotInDD X.K) := ((L2.op_notInD hu).or (op_notInT hu)).or op_notIn_sign
theorem one_sign {x : Str} (h : x.cps.size = 1) : x = ⟨#[x.cps.getD 0 0]⟩ := by
  obtain ⟨c⟩ := x
  have : c = #[c.getD 0 0] := by
    apply Array.ext
    · simpa using h
    · intro i h1 h2
      have : i = 0 := by simp at h2; omega
      subst this
      simp [Array.getD, h1]
  exact congrArg Str.mk this
theorem inDD_r2 {K : PySem.W.Frag} : R2P K (rInDD K) gIn := by
  intro G H x y d e z Q s rx ry hz q
  unfold gIn memD at hz
  split at hz
  · split at hz
    · rename_i hc
      cases hz
      rw [Bool.and_eq_true] at hc
      exact .inl (.inl ⟨_, _, rx.dpH s hc.1, ry.dpH s hc.2, hc.1, hc.2, scal_ret s (fun _ => .bl _) q⟩)
    · cases hz
  · split at hz
    · rename_i hc
      cases hz
      rw [Bool.and_eq_true] at hc
      exact .inl (.inr ⟨_, _, rx.dpH s hc.1, ry.dpH s hc.2, hc.1, hc.2, scal_ret s (fun _ => .bl _) q⟩)
    · cases hz
  · split at hz
    · rename_i hc
      cases hz; cases rx; cases ry
      exact .inr ⟨_, _, congrArg V.str (one_sign hc), rfl, scal_ret s (fun _ => .bl _) q⟩
    · cases hz
  · cases hz
theorem notInDD_r2 {K : PySem.W.Frag} : R2P K (rNotInDD K) gNotIn := by
  intro G H x y d e z Q s rx ry hz q
  unfold gNotIn memD at hz
  split at hz
  · split at hz
    · rename_i hc
      cases hz
      rw [Bool.and_eq_true] at hc
      exact .inl (.inl ⟨_, _, rx.dpH s hc.1, ry.dpH s hc.2, hc.1, hc.2, scal_ret s (fun _ => .bl _) q⟩)
    · cases hz
  · split at hz
    · rename_i hc
      cases hz
      rw [Bool.and_eq_true] at hc
      exact .inl (.inr ⟨_, _, rx.dpH s hc.1, ry.dpH s hc.2, hc.1, hc.2, scal_ret s (fun _ => .bl _) q⟩)
    · cases hz
  · split at hz
    · rename_i hc
      cases hz; cases rx; cases ry
      exact .inr ⟨_, _, congrArg V.str (one_sign hc), rfl, scal_ret s (fun _ => .bl _) q⟩
    · cases hz
  · cases hz

/-! ### items, slices -/
def gIx : D → D → Option D
  | .list xs, .int i => atI xs i
  | .tuple xs, .int i => atI xs i
  | .dict [(.str _, .list xs)], .int i => atI xs i
  | .str z, .int i => if z.length ≤ 16777216 then (atI z.cps.toList i).map fun c => .str ⟨#[c]⟩ else none
  | _, _ => none
theorem RpAll.atI {K : PySem.W.Frag} {G : Hp} {xs : List V} {ds : List D} {i : Int} {d : D} (r : RpAll K G xs ds) (h : L2.atI ds i = some d) : ∃ v, L2.atI xs i = some v ∧ Rp K G v d := by
  unfold L2.atI at h ⊢
  rw [r.length]
  cases e : ixN ds.length i with
  | none => rw [e] at h; cases h
  | some j =>
    rw [e] at h
    exact r.getD h
theorem ixD_r2 {K : PySem.W.Frag} : R2P K (rIx K) gIx := by
  intro G H x y d e z Q s rx ry hz q
  unfold gIx at hz
  split at hz
  · cases rx with | lst g r =>
    cases ry
    obtain ⟨v, e1, e2⟩ := r.atI hz
    exact .inl ⟨_, _, _, _, rfl, rfl, SqL.of (s _ _ g), e1, q _ _ _ (Ext0.rfl s) e2⟩
  · cases rx with | tup g r =>
    cases ry
    obtain ⟨v, e1, e2⟩ := r.atI hz
    exact .inr (.inl ⟨_, _, _, _, rfl, rfl, s.seqT g, e1, q _ _ _ (Ext0.rfl s) e2⟩)
  · cases rx with | scr g r =>
    cases ry
    obtain ⟨v, e1, e2⟩ := r.atI hz
    exact .inl ⟨_, _, _, _, rfl, rfl, s.seqL g, e1, q _ _ _ (Ext0.rfl s) e2⟩
  · split at hz
    · rename_i hl
      cases rx; cases ry
      rename_i z' i
      cases e : L2.atI z'.cps.toList i with
      | none => rw [e] at hz; cases hz
      | some c =>
        rw [e] at hz
        cases hz
        exact .inr (.inr ⟨_, _, _, rfl, rfl, size_line hl, e, scal_ret s (fun _ => .str _) q⟩)
    · cases hz
  · cases hz
/-- a part of a slice -/
def optI : D → Option (Option Int)
  | .int i => some (some i)
  | .none => some none
  | _ => none
def cutL {α : Type} (xs : List α) (lo hi : Option Int) : List α := (xs.drop (HT.sIx xs.length 0 lo)).take (HT.sIx xs.length xs.length hi - HT.sIx xs.length 0 lo)
def gSl : D → Option Int → Option Int → Option D
  | .list xs, lo, hi => some (.list (cutL xs lo hi))
  | .tuple xs, lo, hi => some (.tuple (cutL xs lo hi))
  | .str z, lo, hi => if z.length ≤ 16777216 then some (.str (cutS z lo hi)) else none
  | _, _, _ => none
def rSlD (K : PySem.W.Frag) : V → Option Int → Option Int → Hp → VK → Prop := fun x lo hi H Q => (rSlL K x lo hi H Q ∨ rSlA K x lo hi H Q) ∨ rSlS x lo hi H Q
theorem sl_D {X : Cx} : SlR X (rSlD X.K) := (sl_list.or sl_tupA).or sl_str
theorem cut_whole {α : Type} {xs : List α} {lo hi : Option Int} (h : HT.sIx xs.length 0 lo = 0 ∧ HT.sIx xs.length xs.length hi = xs.length) : cutL xs lo hi = xs := by
  unfold cutL; rw [h.1, h.2]; simp
theorem RpAll.cut {K : PySem.W.Frag} {G : Hp} {xs : List V} {ds : List D} (r : RpAll K G xs ds) (lo hi : Option Int) : RpAll K G (cutV xs lo hi) (cutL ds lo hi) := by
  unfold cutV cutL
  rw [r.length]
  exact (r.drop _).take _
theorem slD_ok {K : PySem.W.Frag} {G H : Hp} {x : V} {d z : D} {lo hi : Option Int} {Q : VK} (s : Sub G H) (rx : Rp K G x d) (hz : gSl d lo hi = some z) (q : ∀ v G' H', Ext0 G H G' H' → Rp K G' v z → Q v H') : rSlD K x lo hi H Q := by
  unfold gSl at hz
  split at hz
  · cases hz
    cases rx with | lst g r =>
    refine .inl (.inl ⟨_, _, rfl, SqL.of (s _ _ g), fun p np => ?_⟩)
    exact q _ _ _ (Ext0.new s np) (.lst upd_same ((r.cut lo hi).mono (Sub.upd (s.none np))))
  · cases hz
    cases rx with | @tup a xs ds g r =>
    refine .inl (.inr ⟨_, _, rfl, s.seqT g, fun e => ?_, fun _ p np => ?_⟩)
    · rw [cut_whole (by rw [← r.length]; exact e)] at q
      exact q _ _ _ (Ext0.rfl s) (.tup g r)
    · exact q _ _ _ (Ext0.new s np) (.tup upd_same ((r.cut lo hi).mono (Sub.upd (s.none np))))
  · split at hz
    · rename_i hl
      cases hz; cases rx
      exact .inr ⟨_, rfl, size_line hl, scal_ret s (fun _ => .str _) q⟩
    · cases hz
  · cases hz
def tOI (Γ : Gm) (W : WX) (m : M (Option Int)) : TO := fun σ H Q => ∃ G ρ, SR Γ.K G H σ ρ ∧
  (m ρ).Post (fun o ρ' => ∀ G' H', Stp Γ.K G H σ ρ G' H' σ ρ' → Q o H') (EW Γ W G H σ ρ)
theorem PO.imp {X : Cx} {e : Option Expr} {t t' : TO} (h : PO X e t) (k : ∀ σ H Q, t' σ H Q → t σ H Q) : PO X e t' := ⟨fun pins s σ H Q I q => h.run pins s σ H Q I (k _ _ _ q)⟩
def pNone : M (Option Int) := M.ret none
def pSome (m : M D) : M (Option Int) := m.bind fun d => match d with
  | .int i => M.ret (some i)
  | _ => M.fail
def eSl (me : M D) (ml mh : M (Option Int)) : M D := me.bind fun d => ml.bind fun lo => mh.bind fun hi => M.opt (gSl d lo hi)
section
variable {X : Cx} {Γ : Gm} {W : WX} {e : Expr} {pos p2 : Pos} {m : M D}
theorem dp_none : PO X none (tOI Γ W pNone) := PO.imp po_none fun σ H Q ⟨G, ρ, s, h⟩ => h G H (Stp.rfl s)
theorem dp_some (h : PE X e (tD Γ W m)) : PO X (some e) (tOI Γ W (pSome m)) := by
  refine PO.imp (po_some h) fun σ H Q ⟨G, ρ, s, h⟩ => ⟨G, ρ, s, (post_bind.mp h).imp (fun d ρ1 h1 v G1 H1 x1 r1 => ?_) fun _ _ e => e⟩
  cases d <;> try exact h1.elim
  cases r1
  exact ⟨_, rfl, h1 G1 H1 x1⟩
theorem de_slice {lo hi : Option Expr} {ml mh : M (Option Int)} (he : PE X e (tD Γ W m)) (hl : PO X lo (tOI Γ W ml)) (hh : PO X hi (tOI Γ W mh)) (hK : X.K = Γ.K := by rfl) : PE X (.Subscript e (.Slice lo hi none p2) pos) (tD Γ W (eSl m ml mh)) := by
  refine PE.imp (pe_slice (r := rSlD X.K) sl_D he hl hh) fun σ H Q ⟨G, ρ, s, h⟩ => ⟨G, ρ, s, (post_bind.mp h).imp (fun d ρ1 h1 v G1 H1 x1 r1 => ?_) fun _ _ e => e⟩
  refine ⟨G1, ρ1, x1.sr, (post_bind.mp h1).imp (fun lo ρ2 h2 G2 H2 x2 => ?_) fun c ρ' e => e.tr x1⟩
  refine ⟨G2, ρ2, x2.sr, (post_bind.mp h2).imp (fun hi ρ3 h3 G3 H3 x3 => ?_) fun c ρ' e => (e.tr x1).tr x2⟩
  obtain ⟨z, hz, q⟩ := opt_post h3
  rw [hK]
  exact slD_ok x3.sr.sub (r1.mono (x2.fr.ext.tr x3.fr.ext)) hz fun w G4 H4 x r => q w G4 H4 (((x1.tr x2).tr x3).tr (x3.sr.ext x)) r
end

/-! ### built-ins -/
def gLen : List D → Option D
  | [.list xs] => some (.int (xs.length : Nat))
  | [.tuple xs] => some (.int (xs.length : Nat))
  | [.dict [(.str _, .list xs)]] => some (.int (xs.length : Nat))
  | [.str z] => if z.length ≤ 16777216 then some (.int (z.length : Nat)) else none
  | _ => none
def rLenD (K : PySem.W.Frag) : List V → Hp → VK → Prop := fun xs H Q => (∃ p ys, xs = [.ref p] ∧ (SqL K H p ys ∨ SqT K H p ys) ∧ Q (.int ys.length) H) ∨ ∃ z, xs = [.str z] ∧ z.length ≤ sizeLine ∧ Q (.int z.length) H
theorem call_lenD {X : Cx} : CallR X (.builtin "len") (rLenD X.K) := call_len_seq.or call_len_str
theorem lenD_n {K : PySem.W.Frag} : RNP K (rLenD K) gLen := by
  intro G H xs ds z Q s r hz q
  unfold gLen at hz
  split at hz
  · cases hz
    cases r with | cons a b =>
    cases b
    cases a with | lst g r =>
    rw [← r.length] at q
    exact .inl ⟨_, _, rfl, .inl (SqL.of (s _ _ g)), scal_ret s (fun _ => .int _) q⟩
  · cases hz
    cases r with | cons a b =>
    cases b
    cases a with | tup g r =>
    rw [← r.length] at q
    exact .inl ⟨_, _, rfl, .inr (s.seqT g), scal_ret s (fun _ => .int _) q⟩
  · cases hz
    cases r with | cons a b =>
    cases b
    cases a with | scr g r =>
    rw [← r.length] at q
    exact .inl ⟨_, _, rfl, .inl (s.seqL g), scal_ret s (fun _ => .int _) q⟩
  · split at hz
    · rename_i hl
      cases hz
      cases r with | cons a b =>
      cases b; cases a
      exact .inr ⟨_, rfl, size_line hl, scal_ret s (fun _ => .int _) q⟩
    · cases hz
  · cases hz
def gAbs : List D → Option D
  | [.int i] => some (.int (if i < 0 then -i else i))
  | _ => none
theorem absD_n {K : PySem.W.Frag} : RNP K (fun xs H Q => ∃ i, xs = [.int i] ∧ Q (.int (if i < 0 then -i else i)) H) gAbs := by
  intro G H xs ds z Q s r hz q
  unfold gAbs at hz
  split at hz
  · cases hz
    cases r with | cons a b =>
    cases b; cases a
    exact ⟨_, rfl, scal_ret s (fun _ => .int _) q⟩
  · cases hz
/-- the ints of a list -/
def intsOf : List D → Option (List Int)
  | [] => some []
  | .int i :: r => (intsOf r).map (i :: ·)
  | _ => none
theorem intsOf_eq : ∀ {ds : List D} {ns : List Int}, intsOf ds = some ns → ds = ns.map PyData.int
  | [], _, h => by cases h; rfl
  | .int i :: r, ns, h => by
    have h' : (intsOf r).map (i :: ·) = some ns := h
    cases e : intsOf r with
    | none => rw [e] at h'; cases h'
    | some ms =>
      rw [e] at h'
      cases h'
      rw [intsOf_eq e]; rfl
  | .none :: _, _, h => by cases h
  | .bool _ :: _, _, h => by cases h
  | .str _ :: _, _, h => by cases h
  | .list _ :: _, _, h => by cases h
  | .tuple _ :: _, _, h => by cases h
  | .dict _ :: _, _, h => by cases h
theorem intsOf_map : ∀ ns : List Int, intsOf (ns.map PyData.int) = some ns
  | [] => rfl
  | n :: ns => by simp [intsOf, intsOf_map ns]
def maxI : List Int → Option Int
  | [] => none
  | x :: r => some (r.foldl (fun a b => if b > a then b else a) x)
def minI : List Int → Option Int
  | [] => none
  | x :: r => some (r.foldl (fun a b => if b < a then b else a) x)
def gMax : List D → Option D
  | [.int i, .int j] => some (.int (if j > i then j else i))
  | [.list xs] => (intsOf xs).bind fun ns => (maxI ns).map .int
  | _ => none
def gMin : List D → Option D
  | [.int i, .int j] => some (.int (if j < i then j else i))
  | [.list xs] => (intsOf xs).bind fun ns => (minI ns).map .int
  | _ => none
theorem foldl_max (r : List Int) : ∀ x : Int, (r.foldl (fun a b => if b > a then b else a) x) ∈ x :: r ∧ ∀ y ∈ x :: r, y ≤ r.foldl (fun a b => if b > a then b else a) x := by
  induction r with
  | nil => intro x; simp
  | cons y r ih =>
    intro x
    rw [List.foldl_cons]
    obtain ⟨h1, h2⟩ := ih (if y > x then y else x)
    refine ⟨?_, fun z hz => ?_⟩
    · rcases List.mem_cons.mp h1 with e | e
      · rw [e]; split <;> simp
      · simp [e]
    · have h3 := h2 _ List.mem_cons_self
      rcases List.mem_cons.mp hz with e | e
      · subst e
        refine Int.le_trans ?_ h3
        split <;> omega
      · rcases List.mem_cons.mp e with e | e
        · subst e
          refine Int.le_trans ?_ h3
          split <;> omega
        · exact h2 _ (List.mem_cons_of_mem _ e)
theorem foldl_min (r : List Int) : ∀ x : Int, (r.foldl (fun a b => if b < a then b else a) x) ∈ x :: r ∧ ∀ y ∈ x :: r, r.foldl (fun a b => if b < a then b else a) x ≤ y := by
  induction r with
  | nil => intro x; simp
  | cons y r ih =>
    intro x
    rw [List.foldl_cons]
    obtain ⟨h1, h2⟩ := ih (if y < x then y else x)
    refine ⟨?_, fun z hz => ?_⟩
    · rcases List.mem_cons.mp h1 with e | e
      · rw [e]; split <;> simp
      · simp [e]
    · have h3 := h2 _ List.mem_cons_self
      rcases List.mem_cons.mp hz with e | e
      · subst e
        refine Int.le_trans h3 ?_
        split <;> omega
      · rcases List.mem_cons.mp e with e | e
        · subst e
          refine Int.le_trans h3 ?_
          split <;> omega
        · exact h2 _ (List.mem_cons_of_mem _ e)
def rMaxD (K : PySem.W.Frag) : List V → Hp → VK → Prop := fun xs H Q => (∃ i j, xs = [.int i, .int j] ∧ Q (.int (if j > i then j else i)) H) ∨ L2.rMax K xs H Q
def rMinD (K : PySem.W.Frag) : List V → Hp → VK → Prop := fun xs H Q => (∃ i j, xs = [.int i, .int j] ∧ Q (.int (if j < i then j else i)) H) ∨ L2.rMin K xs H Q
theorem call_maxD {X : Cx} (hc : X.calm = true) : CallR X (.builtin "max") (rMaxD X.K) := (call_max2 hc).or (cr_max hc)
theorem call_minD {X : Cx} (hc : X.calm = true) : CallR X (.builtin "min") (rMinD X.K) := (call_min2 hc).or (cr_min hc)
theorem maxD_n {K : PySem.W.Frag} : RNP K (rMaxD K) gMax := by
  intro G H xs ds z Q s r hz q
  unfold gMax at hz
  split at hz
  · cases hz
    cases r with | cons a b =>
    cases b with | cons b c =>
    cases c; cases a; cases b
    exact .inl ⟨_, _, rfl, scal_ret s (fun _ => .int _) q⟩
  · rename_i xs'
    cases e : intsOf xs' with
    | none => rw [e] at hz; cases hz
    | some ns =>
      rw [e] at hz
      have e2 := intsOf_eq e
      subst e2
      cases r with | cons a b =>
      cases b
      cases a with | lst g r =>
      have e3 := r.ints
      subst e3
      cases ns with
      | nil => cases hz
      | cons x r' =>
        cases hz
        refine .inr ⟨_, _, rfl, SqL.of (s _ _ g), Nat.succ_pos _, fun m hm hle => ?_⟩
        obtain ⟨h1, h2⟩ := foldl_max r' x
        have : m = r'.foldl (fun a b => if b > a then b else a) x := Int.le_antisymm (h2 m hm) (hle _ h1)
        rw [this]
        exact scal_ret s (fun _ => .int _) q
  · cases hz
theorem minD_n {K : PySem.W.Frag} : RNP K (rMinD K) gMin := by
  intro G H xs ds z Q s r hz q
  unfold gMin at hz
  split at hz
  · cases hz
    cases r with | cons a b =>
    cases b with | cons b c =>
    cases c; cases a; cases b
    exact .inl ⟨_, _, rfl, scal_ret s (fun _ => .int _) q⟩
  · rename_i xs'
    cases e : intsOf xs' with
    | none => rw [e] at hz; cases hz
    | some ns =>
      rw [e] at hz
      have e2 := intsOf_eq e
      subst e2
      cases r with | cons a b =>
      cases b
      cases a with | lst g r =>
      have e3 := r.ints
      subst e3
      cases ns with
      | nil => cases hz
      | cons x r' =>
        cases hz
        refine .inr ⟨_, _, rfl, SqL.of (s _ _ g), Nat.succ_pos _, fun m hm hle => ?_⟩
        obtain ⟨h1, h2⟩ := foldl_min r' x
        have : m = r'.foldl (fun a b => if b < a then b else a) x := Int.le_antisymm (hle _ h1) (h2 m hm)
        rw [this]
        exact scal_ret s (fun _ => .int _) q
  · cases hz
def gSum : List D → Option D
  | [.list xs] => (intsOf xs).map fun ns => .int ns.sum
  | _ => none
theorem sumD_n {K : PySem.W.Frag} : RNP K (L2.rSum K) gSum := by
  intro G H xs ds z Q s r hz q
  unfold gSum at hz
  split at hz
  · rename_i xs'
    cases e : intsOf xs' with
    | none => rw [e] at hz; cases hz
    | some ns =>
      rw [e] at hz
      cases hz
      have e2 := intsOf_eq e
      subst e2
      cases r with | cons a b =>
      cases b
      cases a with | lst g r =>
      have e3 := r.ints
      subst e3
      exact ⟨_, _, rfl, SqL.of (s _ _ g), scal_ret s (fun _ => .int _) q⟩
  · cases hz
/-- the bools of a list -/
def blsOf : List D → Option (List Bool)
  | [] => some []
  | .bool i :: r => (blsOf r).map (i :: ·)
  | _ => none
theorem blsOf_eq : ∀ {ds : List D} {ns : List Bool}, blsOf ds = some ns → ds = ns.map PyData.bool
  | [], _, h => by cases h; rfl
  | .bool i :: r, ns, h => by
    have h' : (blsOf r).map (i :: ·) = some ns := h
    cases e : blsOf r with
    | none => rw [e] at h'; cases h'
    | some ms =>
      rw [e] at h'
      cases h'
      rw [blsOf_eq e]; rfl
  | .none :: _, _, h => by cases h
  | .int _ :: _, _, h => by cases h
  | .str _ :: _, _, h => by cases h
  | .list _ :: _, _, h => by cases h
  | .tuple _ :: _, _, h => by cases h
  | .dict _ :: _, _, h => by cases h
theorem blsOf_map : ∀ ns : List Bool, blsOf (ns.map PyData.bool) = some ns
  | [] => rfl
  | n :: ns => by simp [blsOf, blsOf_map ns]
def gAll : List D → Option D
  | [.list xs] => (blsOf xs).map fun ns => .bool (ns.all id)
  | _ => none
def gAny : List D → Option D
  | [.list xs] => (blsOf xs).map fun ns => .bool (ns.any id)
  | _ => none
theorem allD_n {K : PySem.W.Frag} : RNP K (L2.rAll K) gAll := by
  intro G H xs ds z Q s r hz q
  unfold gAll at hz
  split at hz
  · rename_i xs'
    cases e : blsOf xs' with
    | none => rw [e] at hz; cases hz
    | some ns =>
      rw [e] at hz
      cases hz
      have e2 := blsOf_eq e
      subst e2
      cases r with | cons a b =>
      cases b
      cases a with | lst g r =>
      have e3 := r.bls
      subst e3
      exact ⟨_, _, rfl, SqL.of (s _ _ g), scal_ret s (fun _ => .bl _) q⟩
  · cases hz
theorem anyD_n {K : PySem.W.Frag} : RNP K (L2.rAny K) gAny := by
  intro G H xs ds z Q s r hz q
  unfold gAny at hz
  split at hz
  · rename_i xs'
    cases e : blsOf xs' with
    | none => rw [e] at hz; cases hz
    | some ns =>
      rw [e] at hz
      cases hz
      have e2 := blsOf_eq e
      subst e2
      cases r with | cons a b =>
      cases b
      cases a with | lst g r =>
      have e3 := r.bls
      subst e3
      exact ⟨_, _, rfl, SqL.of (s _ _ g), scal_ret s (fun _ => .bl _) q⟩
  · cases hz
/-- sorted of ints -/
def insI (x : Int) : List Int → List Int
  | [] => [x]
  | y :: r => if x ≤ y then x :: y :: r else y :: insI x r
def sortI : List Int → List Int
  | [] => []
  | x :: r => insI x (sortI r)
theorem insI_perm (x : Int) : ∀ l, (insI x l).Perm (x :: l)
  | [] => List.Perm.refl _
  | y :: r => by
    unfold insI
    split
    · exact List.Perm.refl _
    · exact ((insI_perm x r).cons y).trans (List.Perm.swap x y r)
theorem sortI_perm : ∀ l, (sortI l).Perm l
  | [] => List.Perm.refl _
  | x :: r => (insI_perm x _).trans ((sortI_perm r).cons x)
theorem insI_sorted (x : Int) : ∀ l, l.Pairwise (· ≤ ·) → (insI x l).Pairwise (· ≤ ·)
  | [], _ => by simp [insI]
  | y :: r, h => by
    unfold insI
    split
    · rename_i hxy
      refine List.pairwise_cons.mpr ⟨fun z hz => ?_, h⟩
      rcases List.mem_cons.mp hz with e | e
      · subst e; exact hxy
      · exact Int.le_trans hxy ((List.pairwise_cons.mp h).1 z e)
    · rename_i hxy
      refine List.pairwise_cons.mpr ⟨fun z hz => ?_, insI_sorted x r (List.pairwise_cons.mp h).2⟩
      rcases List.mem_cons.mp ((insI_perm x r).mem_iff.mp hz) with e | e
      · subst e; omega
      · exact (List.pairwise_cons.mp h).1 z e
theorem sortI_sorted : ∀ l, (sortI l).Pairwise (· ≤ ·)
  | [] => .nil
  | x :: r => insI_sorted x _ (sortI_sorted r)
theorem sorted_eq {l m : List Int} (p : l.Perm m) (h1 : l.Pairwise (· ≤ ·)) (h2 : m.Pairwise (· ≤ ·)) : l = m := by
  induction l generalizing m with
  | nil => exact (List.Perm.nil_eq p)
  | cons x r ih =>
    cases m with
    | nil => exact absurd p.symm.nil_eq (by simp)
    | cons y t =>
      have hx : x ∈ y :: t := p.mem_iff.mp List.mem_cons_self
      have hy : y ∈ x :: r := p.mem_iff.mpr List.mem_cons_self
      have e : x = y := by
        rcases List.mem_cons.mp hx with e | e
        · exact e
        · rcases List.mem_cons.mp hy with e' | e'
          · exact e'.symm
          · exact Int.le_antisymm ((List.pairwise_cons.mp h1).1 y e') ((List.pairwise_cons.mp h2).1 x e)
      subst e
      rw [ih (List.Perm.cons_inv p) (List.pairwise_cons.mp h1).2 (List.pairwise_cons.mp h2).2]
def gSortI : List D → Option D
  | [.list xs] => (intsOf xs).map fun ns => .list ((sortI ns).map .int)
  | _ => none
theorem sortI_n {K : PySem.W.Frag} : RNP K (L2.rSortedI K) gSortI := by
  intro G H xs ds z Q s r hz q
  unfold gSortI at hz
  split at hz
  · rename_i xs'
    cases e : intsOf xs' with
    | none => rw [e] at hz; cases hz
    | some ns =>
      rw [e] at hz
      cases hz
      have e2 := intsOf_eq e
      subst e2
      cases r with | cons a b =>
      cases b
      cases a with | lst g r =>
      have e3 := r.ints
      subst e3
      refine ⟨_, _, rfl, SqL.of (s _ _ g), fun ns' p hp hs np => ?_⟩
      have e4 := sorted_eq (hp.trans (sortI_perm ns).symm) hs (sortI_sorted ns)
      subst e4
      have x := Ext0.new (o := .lst ((sortI ns).map V.int)) s np
      exact q _ _ _ x (.lst upd_same (RpAll.of_ints _))
  · cases hz
def gTuple : List D → Option D
  | [.list xs] => some (.tuple xs)
  | [.tuple xs] => some (.tuple xs)
  | _ => none
theorem tupleD_n {K : PySem.W.Frag} : RNP K (fun xs H Q => ∃ p ys, xs = [.ref p] ∧ ((SqL K H p ys ∧ ∀ l, H l = none → Q (.ref l) (upd H l (.tup ys))) ∨ (SqT K H p ys ∧ Q (.ref p) H))) gTuple := by
  intro G H xs ds z Q s r hz q
  unfold gTuple at hz
  split at hz
  · cases hz
    cases r with | cons a b =>
    cases b
    cases a with | lst g r =>
    refine ⟨_, _, rfl, .inl ⟨SqL.of (s _ _ g), fun p np => ?_⟩⟩
    exact q _ _ _ (Ext0.new s np) (.tup upd_same (r.mono (Sub.upd (s.none np))))
  · cases hz
    cases r with | cons a b =>
    cases b
    cases a with | tup g r =>
    exact ⟨_, _, rfl, .inr ⟨s.seqT g, q _ _ _ (Ext0.rfl s) (.tup g r)⟩⟩
  · cases hz
def gList : List D → Option D
  | [.list xs] => some (.list xs)
  | [.tuple xs] => some (.list xs)
  | _ => none
theorem listD_n {K : PySem.W.Frag} : RNP K (fun xs H Q => ∃ p ys, xs = [.ref p] ∧ (SqL K H p ys ∨ SqT K H p ys) ∧ ∀ l, H l = none → Q (.ref l) (upd H l (.lst ys))) gList := by
  intro G H xs ds z Q s r hz q
  unfold gList at hz
  split at hz
  · cases hz
    cases r with | cons a b =>
    cases b
    cases a with | lst g r =>
    refine ⟨_, _, rfl, .inl (SqL.of (s _ _ g)), fun p np => ?_⟩
    exact q _ _ _ (Ext0.new s np) (.lst upd_same (r.mono (Sub.upd (s.none np))))
  · cases hz
    cases r with | cons a b =>
    cases b
    cases a with | tup g r =>
    refine ⟨_, _, rfl, .inr (s.seqT g), fun p np => ?_⟩
    exact q _ _ _ (Ext0.new s np) (.lst upd_same (r.mono (Sub.upd (s.none np))))
  · cases hz
def gInt : List D → Option D
  | [.int i] => some (.int i)
  | [.bool b] => some (.int (if b then 1 else 0))
  | _ => none
theorem intD_n {K : PySem.W.Frag} : RNP K (fun xs H Q => (∃ i, xs = [.int i] ∧ Q (.int i) H) ∨ ∃ k, xs = [.bl k] ∧ Q (.int (if k then 1 else 0)) H) gInt := by
  intro G H xs ds z Q s r hz q
  unfold gInt at hz
  split at hz
  · cases hz
    cases r with | cons a b =>
    cases b; cases a
    exact .inl ⟨_, rfl, scal_ret s (fun _ => .int _) q⟩
  · cases hz
    cases r with | cons a b =>
    cases b; cases a
    exact .inr ⟨_, rfl, scal_ret s (fun _ => .int _) q⟩
  · cases hz

/-! ### repr -/
def reprD (d : D) : Option D := if d.showable && decide (d.depth ≤ 64) && decide (d.shown.length ≤ 16777216) && d.canLay0 then some (.str d.shown) else none
def gRepr : List D → Option D
  | [d] => reprD d
  | _ => none
def rReprD (K : PySem.W.Frag) : List V → Hp → VK → Prop := fun xs H Q => ∃ v d, xs = [v] ∧ Dp K H v d ∧ d.showable = true ∧ d.depth ≤ 64 ∧ d.shown.length ≤ sizeLine ∧ d.hasDict = false ∧ Q (.str d.shown) H
theorem call_reprD {X : Cx} (hgd : X.A.guards = some []) (hu : X.A.units + 65 < cLine) : CallR X (.builtin "repr") (rReprD X.K) := by
  intro pins s σ H xs us Q I r h
  obtain ⟨v, d, rfl, dp, hs, hd, hl, hn, q⟩ := h
  obtain ⟨u, rfl, ru⟩ := vals1 r
  obtain ⟨as, rd⟩ := Dp.reads I d v u dp ru
  have keep : ∀ h' tk, (∀ b o, s.heap.get? b = some o → h'.get? b = some o) → Inv X pins σ H { s with heap := h', toks := tk } := fun h' tk k => I.kept k
  cases rd with
  | none => simp only [PyData.shown] at q; exact PySem.P.repr_of_none ⟨.str _, H, I.tok _, ⟨_, rfl⟩, q⟩
  | bool b => simp only [PyData.shown] at q; exact PySem.P.repr_of_bool ⟨.str _, H, I.tok _, ⟨_, rfl⟩, q⟩
  | int i t => simp only [PyData.shown] at q; exact PySem.P.repr_of_int (by simpa [PyData.showable] using hs) ⟨.str _, H, I.tok _, ⟨_, rfl⟩, q⟩
  | str x t => simp only [PyData.shown] at q hl; exact PySem.P.repr_of_str ⟨.str _, H, I.tok _, ⟨_, rfl⟩, q⟩ hl
  | list h1 h2 h3 h4 => exact repr_of_reads' (.list h1 h2 h3 h4) hs (fun z => by rw [hn] at z; cases z) hgd (by omega) (fun _ _ e => e) (fun h' u tk k => ⟨.str _, H, keep h' tk k, ⟨_, rfl⟩, q⟩) hl
  | tuple h1 h2 h3 h4 => exact repr_of_reads' (.tuple h1 h2 h3 h4) hs (fun z => by rw [hn] at z; cases z) hgd (by omega) (fun _ _ e => e) (fun h' u tk k => ⟨.str _, H, keep h' tk k, ⟨_, rfl⟩, q⟩) hl
  | dict _ _ _ _ _ => simp [PyData.hasDict] at hn
theorem reprD_n {K : PySem.W.Frag} : RNP K (rReprD K) gRepr := by
  intro G H xs ds z Q s r hz q
  unfold gRepr at hz
  split at hz
  · rename_i d
    unfold reprD at hz
    split at hz
    · rename_i hc
      cases hz
      simp only [Bool.and_eq_true, decide_eq_true_eq] at hc
      obtain ⟨⟨⟨c1, c2⟩, c3⟩, c4⟩ := hc
      cases r with | cons a b =>
      cases b
      exact ⟨_, d, rfl, (a.mono s).dp c4, c1, c2, size_line c3, PyData.hasDict_of_canLay d c4, scal_ret s (fun _ => .str _) q⟩
    · cases hz
  · cases hz
end DL

/-! DLh: a slot's own list read and changed; isinstance; zip, enumerate. -/
namespace DL
open PySem PySem.Spec L2

section
variable {K : PySem.W.Frag} {G H : Hp} {σ : St} {ρ : Rho}
/-- the own object of a slot is changed -/
theorem SR.updO (s : SR K G H σ ρ) {i : Nat} {a : Addr} {c c' : OC} {u' : HO} (h : ρ[i]? = some (.own c)) (hσ : σ[i]? = some (some (.ref a))) (ok : OcOk K G c' u') :
    Stp K G H σ ρ G (upd H a u') σ (ρ.set i (.own c')) := by
  obtain ⟨a', u, e1, e2, e3, e4⟩ := s.own h
  rw [hσ] at e1; cases e1
  have hi : i < ρ.length := by
    cases Nat.lt_or_ge i ρ.length with
    | inl z => exact z
    | inr z => rw [List.getElem?_eq_none z] at h; cases h
  have back : ∀ j b, OwnAt σ (ρ.set i (.own c')) j b → OwnAt σ ρ j b := fun j b ⟨c2, f1, f2⟩ => by
    by_cases q : i = j
    · subst q; exact ⟨c, h, f2⟩
    · rw [List.getElem?_set_ne q] at f1; exact ⟨c2, f1, f2⟩
  refine ⟨⟨fun b o e => ?_, by rw [List.length_set]; exact s.len, fun j t e => ?_, fun j k b x y => s.sep j k b (back j b x) (back k b y)⟩, ⟨Sub.rfl, fun b o e n => ?_, fun _ _ _ g _ => g⟩, fun b ⟨j, x⟩ => .inl ⟨j, back j b x⟩⟩
  · rw [upd_ne (ne_of_none e e2)]; exact s.sub b o e
  · by_cases q : i = j
    · subst q
      rw [List.getElem?_set_self hi] at e
      cases e
      exact ⟨a, u', hσ, e2, upd_same, ok⟩
    · rw [List.getElem?_set_ne q] at e
      have z := s.ok j t e
      cases t with
      | un => trivial
      | ex a => exact z
      | fz d => exact z
      | own c2 =>
        obtain ⟨b, w, x1, x2, x3, x4⟩ := z
        refine ⟨b, w, x1, x2, ?_, x4⟩
        rw [upd_ne]
        · exact x3
        · intro z; subst z
          exact q (s.sep i j b ⟨c, h, hσ⟩ ⟨c2, e, x1⟩)
  · rw [upd_ne]
    · exact e
    · intro z; subst z
      exact n ⟨i, c, h, hσ⟩
/-- an own list -/
theorem SR.ownL (s : SR K G H σ ρ) {i : Nat} {ds : List D} (h : ρ[i]? = some (.own (.lst ds))) : ∃ a vs, σ[i]? = some (some (.ref a)) ∧ H a = some (.lst vs) ∧ RpAll K G vs ds := by
  obtain ⟨a, u, e1, e2, e3, e4⟩ := s.own h
  cases e4 with
  | lst r => exact ⟨a, _, e1, e3, r⟩
end

/-! ### own lists, read -/
def onSlot {α : Type} (i : Nat) (f : D → M α) (g : M α) : M α := fun ρ => match ρ[i]? with
  | some (.fz d) => f d ρ
  | some (.own (.lst _)) => g ρ
  | _ => .bad
def slotL {α : Type} (i : Nat) (f : List D → M α) : M α := fun ρ => match ρ[i]? with
  | some (.own (.lst ds)) => f ds ρ
  | _ => .bad
/-- x[e], x a slot -/
def eIxP (i : Nat) (mb : M D) : M D := onSlot i (fun d => mb.bind fun k => M.opt (gIx d k)) (mb.bind fun k => slotL i fun ds => M.opt (gIx (.list ds) k))
/-- len(x) -/
def eLenP (i : Nat) : M D := onSlot i (fun d => M.opt (gLen [d])) (slotL i fun ds => M.ret (.int (ds.length : Nat)))
def eCmpP (g : D → D → Option D) (i : Nat) (mb : M D) : M D := onSlot i (fun d => mb.bind fun k => M.opt (g d k)) (mb.bind fun k => slotL i fun ds => M.opt (g (.list ds) k))
def eInP (g : D → D → Option D) (ma : M D) (i : Nat) : M D := ma.bind fun k => onSlot i (fun d => M.opt (g k d)) (slotL i fun ds => M.opt (g k (.list ds)))
section
variable {X : Cx} {Γ : Gm} {W : WX} {P : List Nat} {pos : Pos} {i : Nat} {x : Str} {px : Pos} {b : Expr} {mb : M D}
theorem onSlot_post {α : Type} {f : D → M α} {g : M α} {ρ : Rho} {Q : α → Rho → Prop} {E : Exc → Rho → Prop} (h : (onSlot i f g ρ).Post Q E) :
    (∃ d, ρ[i]? = some (.fz d) ∧ (f d ρ).Post Q E) ∨ (∃ ds, ρ[i]? = some (.own (.lst ds)) ∧ (g ρ).Post Q E) := by
  unfold onSlot at h
  split at h
  · exact .inl ⟨_, by assumption, h⟩
  · exact .inr ⟨_, by assumption, h⟩
  · exact h.elim
theorem slotL_post {α : Type} {f : List D → M α} {ρ : Rho} {Q : α → Rho → Prop} {E : Exc → Rho → Prop} (h : (slotL i f ρ).Post Q E) : ∃ ds, ρ[i]? = some (.own (.lst ds)) ∧ (f ds ρ).Post Q E := by
  unfold slotL at h
  split at h
  · exact ⟨_, by assumption, h⟩
  · exact h.elim
theorem de_ixP (hx : PE X (.Name x px) (tVar i)) (hb : PE X b (tD Γ W mb)) (hs : PlainIx b) (hK : X.K = Γ.K := by rfl) : PE X (.Subscript (.Name x px) b pos) (tD Γ W (eIxP i mb)) := by
  refine PE.imp (pe_ix (r := rIx X.K) ix_seq hx hb hs) fun σ H Q ⟨G, ρ, s, h⟩ => ?_
  rw [hK]
  rcases onSlot_post h with ⟨d, e, h⟩ | ⟨ds0, e, h⟩
  · obtain ⟨v, e1, e2⟩ := s.fz e
    refine ⟨v, e1, G, ρ, s, (post_bind.mp h).imp (fun k ρ2 h2 u G2 H2 x2 r2 => ?_) fun _ _ e => e⟩
    obtain ⟨z, hz, q⟩ := opt_post h2
    exact ixD_r2 G2 H2 v u d k z Q x2.sr.sub (e2.mono x2.fr.ext) r2 hz fun w G3 H3 x r3 => q w G3 H3 (x2.tr (x2.sr.ext x)) r3
  · obtain ⟨a, vs, e1, e2, _⟩ := s.ownL e
    refine ⟨.ref a, e1, G, ρ, s, (post_bind.mp h).imp (fun k ρ2 h2 u G2 H2 x2 r2 => ?_) fun _ _ e => e⟩
    obtain ⟨ds, f, h3⟩ := slotL_post h2
    obtain ⟨z, hz, q⟩ := opt_post h3
    obtain ⟨a', vs', g1, g2, g3⟩ := x2.sr.ownL f
    rw [e1] at g1; cases g1
    unfold gIx at hz
    split at hz <;> rename_i heq
    · cases heq
      cases r2
      obtain ⟨w, f1, f2⟩ := g3.atI hz
      exact .inl ⟨_, _, _, _, rfl, rfl, SqL.of g2, f1, q w G2 H2 x2 f2⟩
    · cases heq
    · cases heq
    · cases heq
    · cases hz
theorem de_lenP {p : Pos} (hg : Gl X "len") (hm : X.mg "len" = none) (hx : PE X (.Name x px) (tVar i)) (hK : X.K = Γ.K := by rfl) (he : starEach [.Name x px] X.env = (false, eval (.Name x px) X.env) :: starEach [] X.env := by rfl) : PE X (.Call (.Name "len" p) [.Name x px] [] pos) (tD Γ W (eLenP i)) := by
  refine PE.imp (pe_callB (r := rLenD X.K) call_lenD hg hm boot_len (pa_cons hx pa_nil)) fun σ H Q ⟨G, ρ, s, h⟩ => ?_
  rw [hK]
  rcases onSlot_post h with ⟨d, e, h⟩ | ⟨ds0, e, h⟩
  · obtain ⟨v, e1, e2⟩ := s.fz e
    obtain ⟨z, hz, q⟩ := opt_post h
    exact ⟨v, e1, lenD_n G H [v] [d] z Q s.sub (.cons e2 .nil) hz fun w G3 H3 x r3 => q w G3 H3 (s.ext x) r3⟩
  · obtain ⟨a, vs, e1, e2, r⟩ := s.ownL e
    obtain ⟨ds, f, h3⟩ := slotL_post h
    rw [e] at f; cases f
    exact ⟨.ref a, e1, .inl ⟨_, _, rfl, .inl (SqL.of e2), by rw [r.length]; exact h3 _ G H (Stp.rfl s) (.int _)⟩⟩
theorem bool_any {K : PySem.W.Frag} {G G' : Hp} {v : V} {b : Bool} (r : Rp K G v (.bool b)) : Rp K G' v (.bool b) := by cases r; exact .bl b
def boolR (g : D → D → Option D) : Prop := ∀ d e z, g d e = some z → ∃ b, z = .bool b
theorem gEq_bool : boolR gEq := fun d e z h => by
  unfold gEq at h; split at h <;> cases h; exact ⟨_, rfl⟩
theorem gNe_bool : boolR gNe := fun d e z h => by
  unfold gNe at h; split at h <;> cases h; exact ⟨_, rfl⟩
theorem gIn_bool : boolR gIn := fun d e z h => by
  unfold gIn at h
  cases q : memD d e with
  | none => rw [q] at h; cases h
  | some b => rw [q] at h; cases h; exact ⟨_, rfl⟩
theorem gNotIn_bool : boolR gNotIn := fun d e z h => by
  unfold gNotIn at h
  cases q : memD d e with
  | none => rw [q] at h; cases h
  | some b => rw [q] at h; cases h; exact ⟨_, rfl⟩
theorem cmpP_read {r : R2} {g : D → D → Option D} (hr : R2P Γ.K r g) (hgb : boolR g) {σ : St} {H : Hp} {Q : VK} (h : tD Γ W (eCmpP g i mb) σ H Q) : tOp r (tVar i) (tD Γ W mb) σ H Q := by
  obtain ⟨G, ρ, s, h⟩ := h
  rcases onSlot_post h with ⟨d, e, h⟩ | ⟨ds0, e, h⟩
  · obtain ⟨v, e1, e2⟩ := s.fz e
    refine ⟨v, e1, G, ρ, s, (post_bind.mp h).imp (fun k ρ2 h2 u G2 H2 x2 r2 => ?_) fun _ _ e => e⟩
    obtain ⟨z, hz, q⟩ := opt_post h2
    exact hr G2 H2 v u d k z Q x2.sr.sub (e2.mono x2.fr.ext) r2 hz fun w G3 H3 x r3 => q w G3 H3 (x2.tr (x2.sr.ext x)) r3
  · obtain ⟨a, vs, e1, e2, _⟩ := s.ownL e
    refine ⟨.ref a, e1, G, ρ, s, (post_bind.mp h).imp (fun k ρ2 h2 u G2 H2 x2 r2 => ?_) fun _ _ e => e⟩
    obtain ⟨ds, f, h3⟩ := slotL_post h2
    obtain ⟨z, hz, q⟩ := opt_post h3
    obtain ⟨a', vs', g1, g2, g3⟩ := x2.sr.ownL f
    rw [e1] at g1; cases g1
    refine hr H2 H2 (.ref a) u (.list ds) k z Q Sub.rfl (.lst g2 (g3.mono x2.sr.sub)) (r2.mono x2.sr.sub) hz fun w G3 H3 x r3 => ?_
    obtain ⟨bb, rfl⟩ := hgb _ _ _ hz
    have y : Ext0 G2 H2 G2 H3 := ⟨Sub.rfl, x.h, x2.sr.sub.tr x.h, fun _ _ _ g => g⟩
    exact q w G2 H3 (x2.tr (x2.sr.ext y)) (bool_any r3)
theorem inP_read {r : R2} {g : D → D → Option D} (hr : R2P Γ.K r g) (hgb : boolR g) {σ : St} {H : Hp} {Q : VK} (h : tD Γ W (eInP g mb i) σ H Q) : tOp r (tD Γ W mb) (tVar i) σ H Q := by
  obtain ⟨G, ρ, s, h⟩ := h
  refine ⟨G, ρ, s, (post_bind.mp h).imp (fun k ρ2 h2 u G2 H2 x2 r2 => ?_) fun _ _ e => e⟩
  rcases onSlot_post h2 with ⟨d, e, h⟩ | ⟨ds0, e, h⟩
  · obtain ⟨v, e1, e2⟩ := x2.sr.fz e
    obtain ⟨z, hz, q⟩ := opt_post h
    exact ⟨v, e1, hr G2 H2 u v k d z Q x2.sr.sub r2 e2 hz fun w G3 H3 x r3 => q w G3 H3 (x2.tr (x2.sr.ext x)) r3⟩
  · obtain ⟨a, vs, e1, e2, rr⟩ := x2.sr.ownL e
    obtain ⟨ds, f, h3⟩ := slotL_post h
    rw [e] at f; cases f
    obtain ⟨z, hz, q⟩ := opt_post h3
    refine ⟨.ref a, e1, hr H2 H2 u (.ref a) k (.list ds0) z Q Sub.rfl (r2.mono x2.sr.sub) (.lst e2 (rr.mono x2.sr.sub)) hz fun w G3 H3 x r3 => ?_⟩
    obtain ⟨bb, rfl⟩ := hgb _ _ _ hz
    have y : Ext0 G2 H2 G2 H3 := ⟨Sub.rfl, x.h, x2.sr.sub.tr x.h, fun _ _ _ g => g⟩
    exact q w G2 H3 (x2.tr (x2.sr.ext y)) (bool_any r3)
theorem de_cmpP {op : CmpOp} {r : R2} {g : D → D → Option D} (ho : OpR X (compareOp op) r) (hr : R2P Γ.K r g) (hgb : boolR g) (hx : PE X (.Name x px) (tVar i)) (hb : PE X b (tD Γ W mb)) (hm : behindInMarks op b = false) : PE X (.Compare (.Name x px) [op] [b] pos) (tD Γ W (eCmpP g i mb)) :=
  PE.imp (pe_cmpR ho hx hb hm) fun σ H Q h => cmpP_read hr hgb h
theorem de_inP {op : CmpOp} {r : R2} {g : D → D → Option D} (ho : OpR X (compareOp op) r) (hr : R2P Γ.K r g) (hgb : boolR g) (hx : PE X (.Name x px) (tVar i)) (hb : PE X b (tD Γ W mb)) (hm : behindInMarks op (.Name x px) = false) : PE X (.Compare b [op] [.Name x px] pos) (tD Γ W (eInP g mb i)) :=
  PE.imp (pe_cmpR ho hb hx hm) fun σ H Q h => inP_read hr hgb h
/-- a comparison that is known as a value, as a test -/
theorem tD_bool {m : M D} {σ : St} {H : Hp} {Q : Bool → Hp → Prop} (h : tT Γ W (asB m) σ H Q) : tD Γ W m σ H fun v H' => ∃ k, v = .bl k ∧ Q k H' := by
  obtain ⟨G, ρ, s, h⟩ := h
  refine ⟨G, ρ, s, (asB_post h).imp (fun d ρ1 ⟨k, ek, h1⟩ v G1 H1 x1 r1 => ?_) fun c ρ' e => e⟩
  subst ek
  cases r1
  exact ⟨k, rfl, h1 _ _ x1⟩
theorem dt_cmpP {op : CmpOp} {r : R2} {g : D → D → Option D} (ho : OpR X (compareOp op) r) (hr : R2P Γ.K r g) (hgb : boolR g) (hx : PE X (.Name x px) (tVar i)) (hb : PE X b (tD Γ W mb)) (hm : behindInMarks op b = false) : PT X (.Compare (.Name x px) [op] [b] pos) (tT Γ W (asB (eCmpP g i mb))) :=
  PT.imp (pt_cmpR ho hx hb hm) fun σ H Q h => cmpP_read hr hgb (tD_bool h)
theorem dt_inP {op : CmpOp} {r : R2} {g : D → D → Option D} (ho : OpR X (compareOp op) r) (hr : R2P Γ.K r g) (hgb : boolR g) (hx : PE X (.Name x px) (tVar i)) (hb : PE X b (tD Γ W mb)) (hm : behindInMarks op (.Name x px) = false) : PT X (.Compare b [op] [.Name x px] pos) (tT Γ W (asB (eInP g mb i))) :=
  PT.imp (pt_cmpR ho hb hx hm) fun σ H Q h => inP_read hr hgb (tD_bool h)

/-! ### own lists, changed -/
def setL (i : Nat) (ds : List D) : M Flw := fun ρ => .ok .next (ρ.set i (.own (.lst ds)))
def sApp (i : Nat) (mb : M D) : M Flw := slotL i fun _ => mb.bind fun d => slotL i fun ds => if ds.length < 16777216 then setL i (ds ++ [d]) else M.fail
def sExt (i : Nat) (mb : M D) : M Flw := slotL i fun _ => mb.bind fun d => slotL i fun ds => match d with
  | .list es => if ds.length + es.length ≤ 16777216 then setL i (ds ++ es) else M.fail
  | _ => M.fail
def sSetIx (i : Nat) (mv mk : M D) : M Flw := mv.bind fun d => slotL i fun _ => mk.bind fun k => slotL i fun ds => match k with
  | .int k => match ixN ds.length k with
    | some j => setL i (ds.set j d)
    | none => M.fail
  | _ => M.fail
def ePop (i : Nat) : M D := slotL i fun ds => match ds[ds.length - 1]? with
  | some d => fun ρ => .ok d (ρ.set i (.own (.lst ds.dropLast)))
  | none => M.fail
def ePop0 (i : Nat) : M D := slotL i fun ds => match ds with
  | d :: r => fun ρ => .ok d (ρ.set i (.own (.lst r)))
  | [] => M.fail
theorem lt_line {n : Nat} (h : n < 16777216) : n < sizeLine := by rw [sizeLine_eq]; exact h
theorem ds_app {apos cpos : Pos} (hx : PE X (.Name x px) (tVar i)) (hb : PE X b (tD Γ W mb)) (hK : X.K = Γ.K := by rfl)
    (hbase : attributeBase (.Name x px) "append" X.env (eval (.Name x px) X.env) = eval (.Name x px) X.env := by rfl)
    (hfew : ((backTo cpos (starEach [b] X.env)).all (fun x => !x.1) && (backToKw cpos (keywordEach [] X.env)).all (fun x => x.1.isSome) && decide (([b] : List Expr).length + ([] : List Keyword).length + (if ([] : List Keyword).isEmpty then 0 else 1) < 30)) = true := by rfl)
    (hline : (apos.endLine == cpos.line) = true := by rfl) (hs : starEach [b] X.env = (false, eval b X.env) :: starEach [] X.env := by rfl)
    (hsw : swapsWith (.Call (.Attribute (.Name x px) "append" apos) [b] [] cpos) none pos.line X.env = pure false := by rfl) :
    PS X (.Expr (.Call (.Attribute (.Name x px) "append" apos) [b] [] cpos) pos) (tS Γ W P (sApp i mb)) := by
  refine PS.imp (ps_expr (pe_bm PySem.F.plainAttrs_list PySem.F.slot_list_append PySem.F.type_list_append mt_append hx (pa_cons hb pa_nil hs) hbase hfew hline hs rfl) hsw) fun D σ H ⟨G, ρ, s, h⟩ => ?_
  obtain ⟨ds0, e, h⟩ := slotL_post h
  obtain ⟨a, vs, e1, e2, _⟩ := s.ownL e
  refine ⟨.ref a, e1, .inl ⟨rfl, vs, SqL.of e2⟩, G, ρ, s, (post_bind.mp h).imp (fun d ρ2 h2 u G2 H2 x2 r2 => ?_) fun _ _ e => e.ew⟩
  obtain ⟨ds, f, h3⟩ := slotL_post h2
  obtain ⟨hl, h4⟩ := ite_post h3
  obtain ⟨a', vs', g1, g2, g3⟩ := x2.sr.ownL f
  have g1' := g1
  rw [e1] at g1'; cases g1'
  exact ⟨a, _, _, rfl, rfl, g2, lt_line (by rw [g3.length]; exact hl), h4 σ G2 _ (x2.tr (x2.sr.updO f g1 (.lst (g3.append (.cons r2 .nil))))) fun _ _ => rfl⟩
theorem ds_ext {apos cpos : Pos} (hx : PE X (.Name x px) (tVar i)) (hb : PE X b (tD Γ W mb)) (hK : X.K = Γ.K := by rfl)
    (hbase : attributeBase (.Name x px) "extend" X.env (eval (.Name x px) X.env) = eval (.Name x px) X.env := by rfl)
    (hfew : ((backTo cpos (starEach [b] X.env)).all (fun x => !x.1) && (backToKw cpos (keywordEach [] X.env)).all (fun x => x.1.isSome) && decide (([b] : List Expr).length + ([] : List Keyword).length + (if ([] : List Keyword).isEmpty then 0 else 1) < 30)) = true := by rfl)
    (hline : (apos.endLine == cpos.line) = true := by rfl) (hs : starEach [b] X.env = (false, eval b X.env) :: starEach [] X.env := by rfl)
    (hsw : swapsWith (.Call (.Attribute (.Name x px) "extend" apos) [b] [] cpos) none pos.line X.env = pure false := by rfl) :
    PS X (.Expr (.Call (.Attribute (.Name x px) "extend" apos) [b] [] cpos) pos) (tS Γ W P (sExt i mb)) := by
  refine PS.imp (ps_expr (pe_bm PySem.F.plainAttrs_list PySem.F.slot_list_extend PySem.F.type_list_extend mt_extend hx (pa_cons hb pa_nil hs) hbase hfew hline hs rfl) hsw) fun D σ H ⟨G, ρ, s, h⟩ => ?_
  obtain ⟨ds0, e, h⟩ := slotL_post h
  obtain ⟨a, vs, e1, e2, _⟩ := s.ownL e
  refine ⟨.ref a, e1, .inl ⟨rfl, vs, SqL.of e2⟩, G, ρ, s, (post_bind.mp h).imp (fun d ρ2 h2 u G2 H2 x2 r2 => ?_) fun _ _ e => e.ew⟩
  obtain ⟨ds, f, h3⟩ := slotL_post h2
  cases d <;> try exact h3.elim
  rename_i es
  obtain ⟨hl, h4⟩ := ite_post h3
  obtain ⟨a', vs', g1, g2, g3⟩ := x2.sr.ownL f
  have g1' := g1
  rw [e1] at g1'; cases g1'
  cases r2 with | lst w1 w2 =>
  exact ⟨a, _, _, _, rfl, rfl, g2, x2.sr.sub _ _ w1, size_line (by rw [g3.length, w2.length]; exact hl), h4 σ G2 _ (x2.tr (x2.sr.updO f g1 (.lst (g3.append w2)))) fun _ _ => rfl⟩
theorem ds_setIx {ev ek : Expr} {mv mk : M D} (hx : PE X (.Name x px) (tVar i)) (hv : PE X ev (tD Γ W mv)) (hk : PE X ek (tD Γ W mk))
    (ha : ∀ v, assign (.Subscript (.Name x px) ek pos) X.env v = (do
      let ov ← holding [v] (eval (.Name x px) X.env)
      let iv ← holding [v, ov] (eval ek X.env)
      standAt pos
      holding [v, ov, iv] (setItem ov iv v)
      release [v, ov, iv] []) := by intro _; rfl) {spos : Pos} (hs : swapsWithSole [.Subscript (.Name x px) ek pos] ev spos.line X.env = pure false := by rfl) (hw : swappedStores [.Subscript (.Name x px) ek pos] ev X.env = pure none := by rfl)
    (h1 : (assignEach [.Subscript (.Name x px) ek pos] X.env).map (·.2) = [assign (.Subscript (.Name x px) ek pos) X.env] := by rfl) :
    PS X (.Assign [.Subscript (.Name x px) ek pos] ev spos) (tS Γ W P (sSetIx i mv mk)) := by
  refine PS.imp (ps_asg hv (pg_sub hx hk set_list ha) hs hw h1) fun D σ H ⟨G, ρ, s, h⟩ => ⟨G, ρ, s, (post_bind.mp h).imp (fun d ρ1 h1 v G1 H1 x1 r1 => ?_) fun _ _ e => e.ew⟩
  obtain ⟨ds0, e, h2⟩ := slotL_post h1
  obtain ⟨a, vs, e1, e2, _⟩ := x1.sr.ownL e
  refine ⟨.ref a, e1, G1, ρ1, x1.sr, (post_bind.mp h2).imp (fun k ρ2 h3 u G2 H2 x2 r2 => ?_) fun _ _ e => (e.ew).tr x1⟩
  obtain ⟨ds, f, h4⟩ := slotL_post h3
  cases k <;> try exact h4.elim
  rename_i k
  cases hj : ixN ds.length k with
  | none => simp only [hj] at h4; exact h4.elim
  | some j =>
    simp only [hj] at h4
    obtain ⟨a', vs', g1, g2, g3⟩ := x2.sr.ownL f
    have g1' := g1
    rw [e1] at g1'; cases g1'
    cases r2
    exact ⟨a, _, k, j, rfl, rfl, g2, by rw [g3.length]; exact hj, h4 σ G2 _ ((x1.tr x2).tr (x2.sr.updO f g1 (.lst (g3.set (r1.mono x2.fr.ext) j)))) fun _ _ => rfl⟩
theorem de_pop {apos cpos : Pos} (hx : PE X (.Name x px) (tVar i)) (hK : X.K = Γ.K := by rfl) (hbase : attributeBase (.Name x px) "pop" X.env (eval (.Name x px) X.env) = eval (.Name x px) X.env := by rfl) (hline : (apos.endLine == cpos.line) = true := by rfl) :
    PE X (.Call (.Attribute (.Name x px) "pop" apos) [] [] cpos) (tD Γ W (ePop i)) := by
  refine PE.imp (pe_bm0 PySem.F.plainAttrs_list PySem.F.slot_list_pop PySem.F.type_list_pop mt_pop hx hbase hline) fun σ H Q ⟨G, ρ, s, h⟩ => ?_
  obtain ⟨ds, e, h⟩ := slotL_post h
  obtain ⟨a, vs, e1, e2, r⟩ := s.ownL e
  cases hd : ds[ds.length - 1]? with
  | none => simp only [hd] at h; exact h.elim
  | some d =>
    simp only [hd] at h
    obtain ⟨v, f1, f2⟩ := r.getD hd
    rw [← r.length] at f1
    exact ⟨.ref a, e1, .inl ⟨rfl, vs, SqL.of e2⟩, a, vs, v, rfl, rfl, e2, f1, h v G _ (s.updO e e1 (.lst r.dropLast)) f2⟩
theorem de_pop0 {apos cpos kp : Pos} {j : Nat} (hx : PE X (.Name x px) (tVar i)) (hK : X.K = Γ.K := by rfl) (hbase : attributeBase (.Name x px) "pop" X.env (eval (.Name x px) X.env) = eval (.Name x px) X.env := by rfl)
    (hfew : ((backTo cpos (starEach [.Constant (.int 0) j kp] X.env)).all (fun x => !x.1) && (backToKw cpos (keywordEach [] X.env)).all (fun x => x.1.isSome) && decide (([.Constant (.int 0) j kp] : List Expr).length + ([] : List Keyword).length + (if ([] : List Keyword).isEmpty then 0 else 1) < 30)) = true := by rfl)
    (hline : (apos.endLine == cpos.line) = true := by rfl) : PE X (.Call (.Attribute (.Name x px) "pop" apos) [.Constant (.int 0) j kp] [] cpos) (tD Γ W (ePop0 i)) := by
  refine PE.imp (pe_bm PySem.F.plainAttrs_list PySem.F.slot_list_pop PySem.F.type_list_pop mt_popAt hx (pa_cons pe_int pa_nil) hbase hfew hline rfl rfl) fun σ H Q ⟨G, ρ, s, h⟩ => ?_
  obtain ⟨ds, e, h⟩ := slotL_post h
  obtain ⟨a, vs, e1, e2, r⟩ := s.ownL e
  cases ds with
  | nil => exact h.elim
  | cons d ds =>
    cases r with | cons ra rb =>
    exact ⟨.ref a, e1, .inl ⟨rfl, _, SqL.of e2⟩, a, _, 0, 0, _, rfl, rfl, e2, by decide, by decide, by simp [seqIndex?], rfl, h _ G _ (s.updO e e1 (.lst rb)) ra⟩

/-! ### isinstance -/
def tyNm : D → String
  | .none => "NoneType"
  | .bool _ => "bool"
  | .int _ => "int"
  | .str _ => "str"
  | .list _ => "list"
  | .tuple _ => "tuple"
  | .dict _ => "dict"
def isiD (T : String) : D → Option D
  | .dict (_ :: _) => none
  | d => (kitB (tyNm d) T).map .bool
def eIsi (T : String) (m : M D) : M D := m.bind fun d => M.opt (isiD T d)
theorem tyX_of {K : PySem.W.Frag} {G H : Hp} (s : Sub G H) {v : V} {d : D} (r : Rp K G v d) (h : ∀ a b, d ≠ .dict (a :: b)) : TyX K H v (.type (tyNm d)) := by
  cases r with
  | non => exact .base .non
  | bl b => exact .base (.bl b)
  | int i => exact .base (.int i)
  | str x => exact .base (.str x)
  | lst g _ => exact .base (.lst (s _ _ g))
  | tup g _ =>
    exact .base (.tup (s _ _ g))
  | emp g => exact .base (.dK (s _ _ g))
  | scr _ _ => exact (h _ _ rfl).elim
theorem de_isi {T : String} {e : Expr} {m : M D} {Ts : Str} {p pT : Pos} (hg : Gl X "isinstance") (hm : X.mg "isinstance" = none) (he : PE X e (tD Γ W m)) (hT : PE X (.Name Ts pT) (tC (.ty T))) (hK : X.K = Γ.K := by rfl)
    (hs : starEach [e, .Name Ts pT] X.env = (false, eval e X.env) :: starEach [.Name Ts pT] X.env := by rfl) (hs2 : starEach [.Name Ts pT] X.env = (false, eval (.Name Ts pT) X.env) :: starEach [] X.env := by rfl) (hpl : (backTo pos (starEach [.Name Ts pT] X.env)).any (·.1) = false := by rfl) :
    PE X (.Call (.Name "isinstance" p) [e, .Name Ts pT] [] pos) (tD Γ W (eIsi T m)) := by
  refine PE.imp (pe_callB (r := rIsi X.K) call_isi hg hm (by decide +kernel) (pa_cons he (pa_cons hT pa_nil hs2) hs) (by decide) (by decide) hs hpl) fun σ H Q ⟨G, ρ, s, h⟩ => ⟨G, ρ, s, (post_bind.mp h).imp (fun d ρ1 h1 v G1 H1 x1 r1 => ?_) fun _ _ e => e⟩
  obtain ⟨z, hz, q⟩ := opt_post h1
  rw [hK]
  unfold isiD at hz
  split at hz
  · cases hz
  · rename_i hd
    cases hk : kitB (tyNm d) T with
    | none => rw [hk] at hz; cases hz
    | some b =>
      rw [hk] at hz
      cases hz
      exact ⟨v, .ty T, _, .type T, b, rfl, .ty T, tyX_of x1.sr.sub r1 (fun a b e => hd _ _ e), kit_ty hk, q _ G1 H1 x1 (.bl b)⟩

/-! ### zip, enumerate -/
def zipD : List D → Option (List D)
  | [.list xs, .list ys] => some (List.zipWith (fun a b => .tuple [a, b]) xs ys)
  | [.tuple xs, .tuple ys] => some (List.zipWith (fun a b => .tuple [a, b]) xs ys)
  | _ => none
theorem pair_new {K : PySem.W.Frag} {G H : Hp} {T : Addr} {x y : V} {d e : D} (s : Sub G H) (n : H T = none) (r1 : Rp K G x d) (r2 : Rp K G y e) : ∃ G', Ext0 G H G' (upd H T (.tup [x, y])) ∧ Rp K G' (.ref T) (.tuple [d, e]) := by
  have z := Ext0.new (o := .tup [x, y]) s n
  exact ⟨_, z, .tup upd_same (.cons (r1.mono z.g) (.cons (r2.mono z.g) .nil))⟩
theorem itOk_zip {K : PySem.W.Frag} {a b : Addr} {xs ys : List V} {ds es : List D} {G0 : Hp} (h1 : G0 a = some (.lst xs)) (r1 : RpAll K G0 xs ds) (h2 : G0 b = some (.lst ys)) (r2 : RpAll K G0 ys es) (hz : xs.length ≤ sizeLine) :
    ItOk K (L2.Itz K a b) (List.zipWith (fun a b => PyData.tuple [a, b]) ds es) G0 where
  sz := by rw [List.length_zipWith, ← r1.length]; omega
  at_ := fun i G H d s1 s2 e => by
    rw [List.getElem?_zipWith] at e
    cases e1 : ds[i]? with
    | none => rw [e1] at e; cases e
    | some d1 =>
      cases e2 : es[i]? with
      | none => rw [e1, e2] at e; cases e
      | some d2 =>
        rw [e1, e2] at e
        cases e
        obtain ⟨v, f1, f2⟩ := r1.getD e1
        obtain ⟨u, g1, g2⟩ := r2.getD e2
        have q1 : SqL K H a xs := SqL.of (s2 _ _ (s1 _ _ h1))
        have q2 : SqL K H b ys := SqL.of (s2 _ _ (s1 _ _ h2))
        refine ⟨⟨xs, ys, v, u, q1, q2, f1, g1⟩, fun x H' ⟨T, x', y', e3, e4, e5, e6, e7⟩ => ?_⟩
        have w1 := e6 xs q1
        have w2 := e7 ys q2
        rw [f1] at w1; cases w1
        rw [g1] at w2; cases w2
        subst e3 e5
        exact pair_new s2 e4 (f2.mono s1) (g2.mono s1)
  fin := fun G H s1 s2 => ⟨xs, ys, SqL.of (s2 _ _ (s1 _ _ h1)), SqL.of (s2 _ _ (s1 _ _ h2)), by
    rw [List.length_zipWith, r1.length, r2.length]; omega⟩
theorem itOk_zipT {K : PySem.W.Frag} {a b : Addr} {xs ys : List V} {ds es : List D} {G0 : Hp} (h1 : G0 a = some (.tup xs)) (r1 : RpAll K G0 xs ds) (h2 : G0 b = some (.tup ys)) (r2 : RpAll K G0 ys es) (hz : xs.length ≤ sizeLine) :
    ItOk K (RZ.ItzT K a b) (List.zipWith (fun a b => PyData.tuple [a, b]) ds es) G0 where
  sz := by rw [List.length_zipWith, ← r1.length]; omega
  at_ := fun i G H d s1 s2 e => by
    rw [List.getElem?_zipWith] at e
    cases e1 : ds[i]? with
    | none => rw [e1] at e; cases e
    | some d1 =>
      cases e2 : es[i]? with
      | none => rw [e1, e2] at e; cases e
      | some d2 =>
        rw [e1, e2] at e
        cases e
        obtain ⟨v, f1, f2⟩ := r1.getD e1
        obtain ⟨u, g1, g2⟩ := r2.getD e2
        have q1 : SqT K H a xs := s2.seqT (s1 _ _ h1)
        have q2 : SqT K H b ys := s2.seqT (s1 _ _ h2)
        refine ⟨⟨xs, ys, v, u, q1, q2, f1, g1⟩, fun x H' ⟨T, x', y', e3, e4, e5, e6, e7⟩ => ?_⟩
        have w1 := e6 xs q1
        have w2 := e7 ys q2
        rw [f1] at w1; cases w1
        rw [g1] at w2; cases w2
        subst e3 e5
        exact pair_new s2 e4 (f2.mono s1) (g2.mono s1)
  fin := fun G H s1 s2 => ⟨xs, ys, s2.seqT (s1 _ _ h1), s2.seqT (s1 _ _ h2), by
    rw [List.length_zipWith, r1.length, r2.length]; omega⟩
/-- what is behind arguments has a size -/
def Sz (K : PySem.W.Frag) (H : Hp) : Prop := ∀ a xs, SqL K H a xs ∨ SqT K H a xs → xs.length ≤ sizeLine
theorem pa_sz {es : List Expr} {t : TA} (h : PA X es t) : PA X es (fun σ H Q => t σ H fun vs H1 => Sz X.K H1 → Q vs H1) := ⟨fun p pins s σ H Q I q =>
  thn (h.run p pins s σ H _ I q) fun us s' ⟨vs, H', I', r, q'⟩ => ⟨vs, H', I', r, q' fun a xs z => by
    rcases z with z | z
    · obtain ⟨_, _, _, hz⟩ := I'.list z; exact hz
    · obtain ⟨_, _, _, hz⟩ := I'.tuple z; exact hz⟩⟩
theorem di_zip {e e2 : Expr} {m : M (List D)} {p tpos : Pos} {elts : List Expr} {kk : Nat} (hg : Gl X "zip") (hm : X.mg "zip" = none) (ha : PA X [e, e2] (tDs Γ W m)) (hK : X.K = Γ.K := by rfl)
    (hs : starEach [e, e2] X.env = (false, eval e X.env) :: starEach [e2] X.env := by rfl) (hpl : (backTo pos (starEach [e2] X.env)).any (·.1) = false := by rfl) :
    PI X (.Tuple elts kk tpos) (.Call (.Name "zip" p) [e, e2] [] pos) (tI Γ W (iOpt zipD m)) := by
  refine PI.imp (RZ.pi_zipA hg hm (pa_sz ha) hs hpl) fun σ H R ⟨G, ρ, s, h⟩ => ⟨G, ρ, s, (post_bind.mp h).imp (fun ds ρ1 h1 vs G1 H1 x1 r1 sz => ?_) fun _ _ e => e⟩
  obtain ⟨z, hz, q⟩ := opt_post h1
  rw [hK] at sz ⊢
  unfold zipD at hz
  split at hz
  · cases hz
    cases r1 with | cons ra rb =>
    cases rb with | cons rb rc =>
    cases rc
    cases ra with | lst g1 w1 =>
    cases rb with | lst g2 w2 =>
    refine ⟨_, _, _, _, rfl, .inl ⟨SqL.of (x1.sr.sub _ _ g1), SqL.of (x1.sr.sub _ _ g2), q _ G1 H1 x1 (itOk_zip g1 w1 g2 w2 (sz _ _ (.inl (SqL.of (x1.sr.sub _ _ g1)))))⟩⟩
  · cases hz
    cases r1 with | cons ra rb =>
    cases rb with | cons rb rc =>
    cases rc
    cases ra with | tup g1 w1 =>
    cases rb with | tup g2 w2 =>
    refine ⟨_, _, _, _, rfl, .inr ⟨x1.sr.sub.seqT g1, x1.sr.sub.seqT g2, q _ G1 H1 x1 (itOk_zipT g1 w1 g2 w2 (sz _ _ (.inr (x1.sr.sub.seqT g1))))⟩⟩
  · cases hz
end
end DL

/-! DLi: the law's end. -/
namespace DL
open PySem PySem.Spec L2
open PyProof.Rows (IntsAre AllBare)

def scrD (ns : List Int) : D := .dict [(.str "SCRIPT", .list (ns.map .int))]
/-- what the law's mirror must give -/
def LawOk (F : M Slot) (n : Nat) : Prop := ∀ ns : List Int, ns.length ≤ n → ∃ ss, F [.fz (scrD ns)] = .ok (.fz (.bool true)) ss
/-- the law's call, from a heap in which at most the script is known -/
theorem law_core {P : Program} {w : World} {K : PySem.W.Frag} {mg : Str → Option Value} {k : Nat} {fa a : Addr} {fd : FuncData} {x : Str} {s1 : Shared} {ns : List Int} {F : M Slot} {n : Nat} {H : Hp}
    (go : ∀ base : Heap, K.In base → base.Ns mainGlobals mg → FnG P w K mg base k fa fd [x] F) (hk : Room k callerA) (ok : LawOk F n) (hl : ns.length ≤ n) (bind : ∀ (s : Shared) (u : Value), BindsTo s fd ⟨[u], []⟩ [(x, u)])
    (env : Env0 P w K mg (hidT s1.heap H) callerA [] s1 H) (only : Only H) (seq : SqL K H a (ns.map V.int)) :
    codeAny (model P w) callerA (.call (.ref fa) ⟨[.ref a], []⟩) (fun r s' => r = .ok (.ret (.bool true)) ∧ OldK s1.heap s'.heap ∧ s'.os = s1.os ∧ AllBare s'.gens) s1 := by
  obtain ⟨ss, e⟩ := ok ns hl
  have sp : spF ⟨K, mg⟩ F [.ref a] H (fun v _ => v = .bl true) (fun _ _ _ => False) := by
    refine ⟨H, [.fz (scrD ns)], ⟨Sub.rfl, rfl, fun i t q => ?_, fun i j b p => ?_⟩, ?_⟩
    · cases i with
      | zero =>
        cases q
        exact ⟨.ref a, rfl, .scr seq (RpAll.of_ints ns)⟩
      | succ i => simp at q
    · obtain ⟨c, p1, p2⟩ := p
      cases i with
      | zero => cases p1
      | succ i => simp at p1
    · unfold PostF
      rw [e]
      intro v G' H' _ rv
      cases rv
      rfl
  refine codeAny_mono ((go _ env.mod.kin env.mod.glob).go callerA [] s1 H ⟨[.ref a], []⟩ [.ref a] [.ref a] _ _ hk rfl env (bind s1 (.ref a)) (.cons rfl .nil) sp) fun r s' h => ?_
  match r, h with
  | .error e, h =>
    obtain ⟨_, _, _, _, _, _, _, _, _, _, _, _, z⟩ := h
    exact z.elim
  | .ok .next, h => exact h.elim
  | .ok .brk, h => exact h.elim
  | .ok .cont, h => exact h.elim
  | .ok (.ret u), h =>
    obtain ⟨v, H', e1, e2, un, hok', r', q⟩ := h
    have q' : v = .bl true := q
    rw [q'] at r'
    cases r'
    refine ⟨rfl, OldK.of_keep fun b o eb => ?_, e1, e2⟩
    rcases only b with z | ⟨ob, xs, z⟩
    · exact un.keep b o eb z (by intro z; exact absurd (show b ∈ ([] : List Addr) from z) (by simp)) (by simp)
    · have f1 := (env.hok b _ z).1
      have f2 := (hok' b _ (un.frzs b ob _ z)).1
      rw [eb] at f1
      cases f1
      exact f2
theorem law_run {P : Program} {w : World} {K : PySem.W.Frag} {mg mb : Str → Option Value} {k : Nat} {fa a : Addr} {fd : FuncData} {x : Str} {s1 : Shared} {vs : List Value} {ns : List Int} {F : M Slot} {n : Nat}
    (go : ∀ base : Heap, K.In base → base.Ns mainGlobals mg → FnG P w K mg base k fa fd [x] F) (hk : Room k callerA) (ok : LawOk F n) (hl : ns.length ≤ n) (hn : n ≤ sizeLine) (bind : ∀ (s : Shared) (u : Value), BindsTo s fd ⟨[u], []⟩ [(x, u)])
    (KX : K.In s1.heap) (hns : s1.heap.Ns mainGlobals mg) (hb : s1.heap.Ns builtinsNs mb) (hbb : ∀ x : Str, x ≠ "__name__" → mb x = bootBuiltins x) (hlim : s1.heap.NoLimit) (hg : s1.gens = #[])
    (ha : s1.heap.get? a = some { cls := .type "list", data := .seq vs.toArray }) (hi : IntsAre vs ns) :
    codeAny (model P w) callerA (.call (.ref fa) ⟨[.ref a], []⟩) (fun r s' => r = .ok (.ret (.bool true)) ∧ OldK s1.heap s'.heap ∧ s'.os = s1.os ∧ AllBare s'.gens) s1 := by
  have rv : Vals (ns.map V.int) vs := vals_ints hi
  have lv : vs.length = ns.length := hi.length
  -- what a heap H must be like that knows the script alone
  have core : ∀ H : Hp, (∀ b u, H b = some u → b = a ∧ u = .frz { cls := .type "list", data := .seq vs.toArray } (.lst (ns.map V.int)) ∧ K.lookup a = none) → SqL K H a (ns.map V.int) →
      codeAny (model P w) callerA (.call (.ref fa) ⟨[.ref a], []⟩) (fun r s' => r = .ok (.ret (.bool true)) ∧ OldK s1.heap s'.heap ∧ s'.os = s1.os ∧ AllBare s'.gens) s1 := fun H own seq => by
    have low : ∀ {b : Addr} {o : Obj}, s1.heap.get? b = some o → (b ≠ a ∨ K.lookup a ≠ none) → (hidT s1.heap H).get? b = some o := fun {b o} e z => hidT_get e (by
      cases q : H b with
      | none => rfl
      | some u =>
        obtain ⟨z1, _, z2⟩ := own b u q
        rcases z with z | z
        · exact absurd z1 z
        · exact absurd z2 z)
    have lowNs : ∀ {b : Addr} {m : Str → Option Value}, s1.heap.Ns b m → (hidT s1.heap H).Ns b m := fun {b m} ⟨o, es, ep, e, d, r⟩ => by
      refine ⟨o, es, ep, low e (.inl fun z => ?_), d, r⟩
      subst z
      rw [ha] at e
      cases e
      cases d
    have kin : K.In (hidT s1.heap H) := fun b o e => low (KX b o e) (by
      by_cases q : b = a
      · subst q; exact .inr (by rw [e]; simp)
      · exact .inl q)
    have only : Only H := fun b => by
      cases q : H b with
      | none => exact .inl rfl
      | some u => exact .inr ⟨_, _, congrArg some (own b u q).2.1⟩
    have hok : HOk P w H s1.heap := fun b u q => by
      obtain ⟨z1, z2, _⟩ := own b u q
      subst z1 z2
      exact ⟨ha, by rw [List.length_map]; omega, vs, _, rv, ha⟩
    refine law_core go hk ok hl bind ⟨rfl, ⟨kin, lowNs hns, ⟨mb, lowNs hb, hbb⟩, ?_⟩, fun b o e => of_hidT e, Nat.le_of_eq (hidT_size _ _), trivial, (fun b hb => absurd (show b ∈ ([] : List Addr) from hb) (by simp)), hok, .of_eq hg⟩ only seq
    obtain ⟨mc, h1, h2⟩ := hlim
    exact ⟨mc, lowNs h1, h2⟩
  cases hka : K.lookup a with
  | some o =>
    have e := KX a o hka
    rw [ha] at e
    cases e
    exact core (fun _ => none) (fun b u z => by cases z) (.inr ⟨_, vs.toArray, _, hka, rfl, rfl, rfl, by rw [List.size_toArray, lv]; omega, by simpa using rv⟩)
  | none =>
    refine core (fun b => if b = a then some (.frz { cls := .type "list", data := .seq vs.toArray } (.lst (ns.map V.int))) else none) (fun b u z => ?_) (.inl (.inr ⟨_, if_pos rfl⟩))
    by_cases q : b = a
    · rw [if_pos q] at z; cases z; exact ⟨q, rfl, hka⟩
    · rw [if_neg q] at z; cases z
/-- THE END: the goal that k_head leaves -/
theorem law_end {l : PySem.W.OpenLaw} {n k : Nat} {q : Program} {loose : List Str} {XP : (Str → Option Value) → Heap → Prop} {YP : World → Heap → Prop} {d : DefRec} {K : Params → PySem.W.Frag} {F : M Slot} {x : Str}
    (hn : l.most = some n) (hn2 : n ≤ sizeLine) (hdf : d.params.defaults = []) (hk : Room k callerA) (hY : ∀ (w : World) (h : Heap), YP w h → (K w.params).In h) (ok : LawOk F n)
    (go : ∀ (w : World) (mg : Str → Option Value) (fa : Addr) (h : Heap), (K w.params).In h → h.Ns mainGlobals mg → mg d.name = some (.ref fa) →
      ∃ fd : FuncData, (∀ (s : Shared) (u : Value), BindsTo s fd ⟨[u], []⟩ [(x, u)]) ∧ ∀ base : Heap, (K w.params).In base → base.Ns mainGlobals mg → FnG l.prog w (K w.params) mg base k fa fd [x] F) :
    PySem.W.WalkO q loose XP YP l.row.toRowW d [] (fun f vs => PySem.call f vs) := by
  refine Att.attach_call hn hdf fun w s0 s1 mg mb fa o pm cd doc a vs ns G Y ho hd hcd hmg hobj hints hlen hg => ?_
  have KX := hY w _ Y
  obtain ⟨fd, hb, hF⟩ := go w mg fa _ KX G.T.g hmg
  exact law_run hF hk ok hlen hn2 hb KX G.T.g G.T.b G.T.builtins G.T.nolimit hg hobj hints

/-! ### short words for printed derivations -/
def fnP (P : List Nat) (n N : Nat) (b : M Flw) : M Slot := fun ss => if ownIn P ss then fnM n N b ss else .bad
theorem fn_bodyP {P : Program} {w : World} {K : PySem.W.Frag} {mg : Str → Option Value} {base : Heap} {k : Nat} {f : Addr} {x qual : Str} {st : Stmt} {fd : FuncData} {N ps : List Str} {Pr : List Nat} {b : M Flw} {n NL : Nat} (F : Fun K x qual st f fd) (S : FnScope N ps (defScope st)) (hn : n = ps.length) (hNL : N.length = NL)
    (hbody : ∀ (cdv : Value) (A : Around) (outer : List Env) (s : Shared) (H : Hp) (E : XK), Room k (A.deeper (PyProof.Rows.envOfC qual (defScope st) s.heap.objs.size f cdv)) → (A.deeper (PyProof.Rows.envOfC qual (defScope st) s.heap.objs.size f cdv)).guards = some [] →
      PSs (cxOf (L2N.CX P w) P w K mg base N qual (defScope st) f cdv A outer s H E) (defBody st) (tS ⟨K, mg⟩ (fun cls dx _ H' => E cls dx H') Pr b)) :
    FnG P w K mg base (k + 1) f fd ps (fnP Pr n NL b) := hNL ▸ fn_body F S hn hbody
theorem takesF {X : Cx} : L2N.Takes X WF := fun _ _ x => by
  obtain ⟨_, _, _, _, _, _, _, _, _, _, _, _, _, _, _, _, z⟩ := x
  exact z.elim
theorem hu65 {A : Around} {k : Nat} (hr : Room k A) : A.units + 65 < cLine := by have := hr.un; omega
def HasLen {α : Type} (m : M (List α)) (n : Nat) : Prop := ∀ as ρ ρ', m ρ = .ok as ρ' → as.length = n
theorem len0 {α : Type} : HasLen (eNil : M (List α)) 0 := fun as ρ ρ' h => by cases h; rfl
theorem len1 {α : Type} {a : M α} {m : M (List α)} {n : Nat} (h : HasLen m n) : HasLen (eCons a m) (n + 1) := fun as ρ ρ' e => by
  unfold eCons M.bind at e
  cases ha : a ρ with
  | bad => rw [ha] at e; cases e
  | err c r => rw [ha] at e; cases e
  | ok x ρ1 =>
    rw [ha] at e
    simp only at e
    cases hm : m ρ1 with
    | bad => rw [hm] at e; cases e
    | err c r => rw [hm] at e; cases e
    | ok xs ρ2 =>
      rw [hm] at e
      cases e
      simp [h xs ρ1 _ hm]
theorem lenS {i : Nat} {m : M (List Arg)} {n : Nat} (h : HasLen m n) : HasLen (aSlot i m) (n + 1) := fun as ρ ρ' e => by
  unfold aSlot at e
  split at e
  · exact len1 h as ρ ρ' e
  · exact len1 h as ρ ρ' e
  · exact len1 h as ρ ρ' e
  · cases e
end DL

/-! DLj: evaluation of mirrors, for the plain laws. -/
namespace DL
open PySem PySem.Spec L2

theorem bind_ok {α β : Type} {m : M α} {f : α → M β} {ρ ρ' : Rho} {a : α} (h : m ρ = .ok a ρ') : m.bind f ρ = f a ρ' := by unfold M.bind; rw [h]
theorem forL_inv {g : Tg} {b : M Flw} (I : Nat → Rho → Prop) : ∀ (ds : List D) (k0 : Nat) (ρ : Rho), I k0 ρ →
    (∀ k d ρ, ds[k]? = some d → I (k0 + k) ρ → ∃ ρ1 ρ2, g.set d ρ = some ρ1 ∧ (b ρ1 = .ok .next ρ2 ∨ b ρ1 = .ok .cont ρ2) ∧ I (k0 + k + 1) ρ2) →
    ∃ ρ', forL g b ds ρ = .ok .next ρ' ∧ I (k0 + ds.length) ρ'
  | [], k0, ρ, h, _ => ⟨ρ, rfl, h⟩
  | d :: ds, k0, ρ, h, st => by
    obtain ⟨ρ1, ρ2, e1, e2, h2⟩ := st 0 d ρ rfl h
    obtain ⟨ρ', e3, h3⟩ := forL_inv I ds (k0 + 1) ρ2 (by simpa using h2) fun k d' ρ hk hi => by
      obtain ⟨x, y, a, b, c⟩ := st (k + 1) d' ρ (by simpa using hk) (by rw [show k0 + (k + 1) = k0 + 1 + k by omega]; exact hi)
      exact ⟨x, y, a, b, by rw [show k0 + 1 + k + 1 = k0 + (k + 1) + 1 by omega]; exact c⟩
    refine ⟨ρ', ?_, by rw [List.length_cons, show k0 + (ds.length + 1) = k0 + 1 + ds.length by omega]; exact h3⟩
    unfold forL
    rw [e1]
    rcases e2 with e2 | e2 <;> simp only [e2] <;> exact e3
theorem sFor_inv {mi : M (List D)} {g : Tg} {b : M Flw} {ds : List D} {ρ ρ0 : Rho} (I : Nat → Rho → Prop) (hm : mi ρ = .ok ds ρ0) (h0 : I 0 ρ0)
    (st : ∀ k d ρ, ds[k]? = some d → I k ρ → ∃ ρ1 ρ2, g.set d ρ = some ρ1 ∧ (b ρ1 = .ok .next ρ2 ∨ b ρ1 = .ok .cont ρ2) ∧ I (k + 1) ρ2) :
    ∃ ρ', sFor mi g b ρ = .ok .next ρ' ∧ I ds.length ρ' := by
  obtain ⟨ρ', e, h⟩ := forL_inv (g := g) (b := b) I ds 0 ρ0 h0 fun k d ρ hk hi => by
    simpa only [Nat.zero_add] using st k d ρ hk (by simpa only [Nat.zero_add] using hi)
  exact ⟨ρ', (bind_ok hm).trans e, by simpa only [Nat.zero_add] using h⟩
theorem compL_map {α : Type} {vs : List Nat} {g : Tg} {t : M Bool} {e : M D} {ρ : Rho} {φ : α → D} {p : α → Bool} {f : α → D} : ∀ (ds : List α) (acc : List D),
    (∀ d ∈ ds, ∃ ρ1 ρ2 ρ3, g.set (φ d) ρ = some ρ1 ∧ t ρ1 = .ok (p d) ρ2 ∧ (p d = true → e ρ2 = .ok (f d) ρ3) ∧ wipeR (if p d then ρ3 else ρ2) vs = ρ) →
    compL vs g t e (ds.map φ) acc ρ = .ok (acc ++ (ds.filter p).map f) ρ
  | [], acc, _ => by simp [compL]
  | d :: ds, acc, h => by
    obtain ⟨ρ1, ρ2, ρ3, e1, e2, e3, e4⟩ := h d (by simp)
    have ih := fun acc => compL_map ds acc fun x hx => h x (by simp [hx])
    rw [List.map_cons]
    unfold compL
    cases hp : p d with
    | true =>
      rw [hp] at e2 e4
      simp only [e1, e2, e3 hp]
      simp only [if_true] at e4
      rw [e4, ih, List.filter_cons_of_pos hp, List.map_cons, List.append_assoc, List.singleton_append]
    | false =>
      rw [hp] at e2 e4
      simp only [e1, e2]
      simp only [Bool.false_eq_true, if_false] at e4
      rw [e4, ih, List.filter_cons_of_neg (by simp [hp])]
/-- a comprehension that changes nothing -/
theorem oComp_map {α : Type} {vs : List Nat} {mi : M (List D)} {g : Tg} {t : M Bool} {e : M D} {ρ ρ0 : Rho} {φ : α → D} {ds : List α} (p : α → Bool) (f : α → D) (hm : mi ρ = .ok (ds.map φ) ρ0) (hv : (vs.any fun v => isOwn ρ0[v]?) = false)
    (h : ∀ d ∈ ds, ∃ ρ1 ρ2 ρ3, g.set (φ d) (wipeR ρ0 vs) = some ρ1 ∧ t ρ1 = .ok (p d) ρ2 ∧ (p d = true → e ρ2 = .ok (f d) ρ3) ∧ wipeR (if p d then ρ3 else ρ2) vs = wipeR ρ0 vs) (hr : restR ρ0 (wipeR ρ0 vs) vs = ρ0) :
    oComp vs mi g t e ρ = .ok (.lst ((ds.filter p).map f)) ρ0 := by
  unfold oComp
  rw [bind_ok hm]
  simp only [hv, Bool.false_eq_true, if_false]
  rw [compL_map ds [] h]
  simp only [List.nil_append, hr]
/-- without a test -/
theorem oComp_all {α : Type} {vs : List Nat} {mi : M (List D)} {g : Tg} {e : M D} {ρ ρ0 : Rho} {φ : α → D} {ds : List α} (f : α → D) (hm : mi ρ = .ok (ds.map φ) ρ0) (hv : (vs.any fun v => isOwn ρ0[v]?) = false)
    (h : ∀ d ∈ ds, ∃ ρ1 ρ3, g.set (φ d) (wipeR ρ0 vs) = some ρ1 ∧ e ρ1 = .ok (f d) ρ3 ∧ wipeR ρ3 vs = wipeR ρ0 vs) (hr : restR ρ0 (wipeR ρ0 vs) vs = ρ0) :
    oComp vs mi g tYesM e ρ = .ok (.lst (ds.map f)) ρ0 := by
  have := oComp_map (t := tYesM) (fun _ => true) f hm hv (fun d hd => by
    obtain ⟨ρ1, ρ3, a, b, c⟩ := h d hd
    exact ⟨ρ1, ρ1, ρ3, a, rfl, fun _ => b, by simpa using c⟩) hr
  rwa [List.filter_eq_self.mpr (fun _ _ => rfl)] at this
theorem rngD_ok {lo hi : Int} (h : -(2 ^ 62) ≤ lo ∧ lo < 2 ^ 62 ∧ -(2 ^ 62) ≤ hi ∧ hi < 2 ^ 62 ∧ (hi - lo).toNat ≤ 16777216) : rngD lo hi = some ((List.range (hi - lo).toNat).map fun (i : Nat) => PyData.int (lo + (i : Int))) := if_pos h
theorem ret_ok {α : Type} {a : α} {ρ : Rho} : (M.ret a : M α) ρ = .ok a ρ := rfl
/-- the calls of functions that own nothing -/
theorem callF_fz1 {F : M Slot} {a : D} {r : Slot} {ρ : Rho} (h : F [.fz a] = .ok r [.fz a]) : callF F [.fz a] ρ = .ok r ρ := by
  simp [callF, ndA, argSlots, argSlot, h, backR]
theorem callF_fz2 {F : M Slot} {a b : D} {r : Slot} {ρ : Rho} (h : F [.fz a, .fz b] = .ok r [.fz a, .fz b]) : callF F [.fz a, .fz b] ρ = .ok r ρ := by
  simp [callF, ndA, argSlots, argSlot, h, backR]
theorem callF_fz3 {F : M Slot} {a b c : D} {r : Slot} {ρ : Rho} (h : F [.fz a, .fz b, .fz c] = .ok r [.fz a, .fz b, .fz c]) : callF F [.fz a, .fz b, .fz c] ρ = .ok r ρ := by
  simp [callF, ndA, argSlots, argSlot, h, backR]
theorem ownIn_1 {a : D} : ownIn [] [.fz a] = true := rfl
theorem ownIn_2 {a b : D} : ownIn [] [.fz a, .fz b] = true := rfl
theorem ownIn_3 {a b c : D} : ownIn [] [.fz a, .fz b, .fz c] = true := rfl
theorem ownIn_4 {a b c d : D} : ownIn [] [.fz a, .fz b, .fz c, .fz d] = true := rfl
theorem isi_int {n : Int} : isiD "int" (.int n) = some (.bool true) := by rfl
theorem isi_bool {n : Int} : isiD "bool" (.int n) = some (.bool false) := by rfl
/-! ### one step each -/
section
variable {α β : Type} {ρ ρ1 ρ2 ρ3 : Rho}
theorem eVar_ok {i : Nat} {d : D} (h : ρ[i]? = some (.fz d)) : eVar i ρ = .ok d ρ := by unfold eVar; rw [h]
theorem eVar_own {i : Nat} {ds : List D} (h : ρ[i]? = some (.own (.lst ds))) : eVar i ρ = .ok (.list ds) (ρ.set i (.fz (.list ds))) := by unfold eVar; rw [h]
theorem eBin_ok {g : D → D → Option D} {ma mb : M D} {x y z : D} (ha : ma ρ = .ok x ρ1) (hb : mb ρ1 = .ok y ρ2) (hg : g x y = some z) : eBin g ma mb ρ = .ok z ρ2 := by
  unfold eBin; rw [bind_ok ha, bind_ok hb, hg]; rfl
theorem eUn_ok {g : D → Option D} {ma : M D} {x z : D} (ha : ma ρ = .ok x ρ1) (hg : g x = some z) : eUn g ma ρ = .ok z ρ1 := by unfold eUn; rw [bind_ok ha, hg]; rfl
theorem eCall_ok {g : List D → Option D} {ma : M (List D)} {x : List D} {z : D} (ha : ma ρ = .ok x ρ1) (hg : g x = some z) : eCall g ma ρ = .ok z ρ1 := by unfold eCall; rw [bind_ok ha, hg]; rfl
theorem eCons_ok {ma : M α} {mb : M (List α)} {x : α} {xs : List α} (ha : ma ρ = .ok x ρ1) (hb : mb ρ1 = .ok xs ρ2) : eCons ma mb ρ = .ok (x :: xs) ρ2 := by unfold eCons; rw [bind_ok ha, bind_ok hb]; rfl
theorem eNil_ok : (eNil : M (List α)) ρ = .ok [] ρ := rfl
theorem eC_ok {d : D} : eC d ρ = .ok d ρ := rfl
theorem aFz_ok {m : M D} {d : D} (h : m ρ = .ok d ρ1) : aFz m ρ = .ok (.fz d) ρ1 := by unfold aFz; rw [bind_ok h]; rfl
theorem aSlot_fz {i : Nat} {d : D} {mb : M (List Arg)} {xs : List Arg} (h : ρ[i]? = some (.fz d)) (hb : mb ρ = .ok xs ρ1) : aSlot i mb ρ = .ok (.fz d :: xs) ρ1 := by
  unfold aSlot; rw [h]; exact eCons_ok rfl hb
theorem aSlot_own {i : Nat} {c : OC} {mb : M (List Arg)} {xs : List Arg} (h : ρ[i]? = some (.own c)) (hb : mb ρ = .ok xs ρ1) : aSlot i mb ρ = .ok (.rf i :: xs) ρ1 := by
  unfold aSlot; rw [h]; exact eCons_ok rfl hb
theorem asB_ok {m : M D} {b : Bool} (h : m ρ = .ok (.bool b) ρ1) : asB m ρ = .ok b ρ1 := by unfold asB; rw [bind_ok h]; rfl
theorem oLst_ok {m : M (List D)} {xs : List D} (h : m ρ = .ok xs ρ1) (hl : xs.length ≤ 16777216) : oLst m ρ = .ok (.lst xs) ρ1 := by unfold oLst; rw [bind_ok h, if_pos hl]; rfl
theorem eTup_ok {m : M (List D)} {xs : List D} (h : m ρ = .ok xs ρ1) (hl : xs.length ≤ 16777216) : eTup m ρ = .ok (.tuple xs) ρ1 := by unfold eTup; rw [bind_ok h, if_pos hl]; rfl
theorem ofO_ok {m : M OC} {xs : List D} (h : m ρ = .ok (.lst xs) ρ1) : ofO m ρ = .ok (.list xs) ρ1 := by unfold ofO; rw [bind_ok h]; rfl
theorem ofR_ok {m : M Slot} {d : D} (h : m ρ = .ok (.fz d) ρ1) : ofR m ρ = .ok d ρ1 := by unfold ofR; rw [bind_ok h]; rfl
theorem ofR_own {m : M Slot} {xs : List D} (h : m ρ = .ok (.own (.lst xs)) ρ1) : ofR m ρ = .ok (.list xs) ρ1 := by unfold ofR; rw [bind_ok h]; rfl
theorem ownR_ok {m : M Slot} {c : OC} (h : m ρ = .ok (.own c) ρ1) : ownR m ρ = .ok c ρ1 := by unfold ownR; rw [bind_ok h]; rfl
theorem eCallF_ok {F : M Slot} {m : M (List Arg)} {as : List Arg} {r : Slot} (h : m ρ = .ok as ρ1) (hf : callF F as ρ1 = .ok r ρ2) : eCallF F m ρ = .ok r ρ2 := (bind_ok h).trans hf
theorem iOpt_ok {g : List D → Option (List D)} {m : M (List D)} {xs ys : List D} (h : m ρ = .ok xs ρ1) (hg : g xs = some ys) : iOpt g m ρ = .ok ys ρ1 := by unfold iOpt; rw [bind_ok h, hg]; rfl
theorem iSeq_ok {m : M D} {xs : List D} (h : m ρ = .ok (.list xs) ρ1) : iSeq m ρ = .ok xs ρ1 := by unfold iSeq; rw [bind_ok h]; rfl
theorem eIf_t {c : M Bool} {ma mb : M D} {d : D} (hc : c ρ = .ok true ρ1) (h : ma ρ1 = .ok d ρ2) : eIf c ma mb ρ = .ok d ρ2 := by unfold eIf; rw [bind_ok hc]; exact h
theorem eIf_f {c : M Bool} {ma mb : M D} {d : D} (hc : c ρ = .ok false ρ1) (h : mb ρ1 = .ok d ρ2) : eIf c ma mb ρ = .ok d ρ2 := by unfold eIf; rw [bind_ok hc]; exact h
theorem bNot_ok {c : M Bool} {b : Bool} (hc : c ρ = .ok b ρ1) : bNot c ρ = .ok (!b) ρ1 := by unfold bNot; rw [bind_ok hc]; rfl
theorem eIxP_own {i : Nat} {ds : List D} {mb : M D} {k z : D} (h : ρ[i]? = some (.own (.lst ds))) (hb : mb ρ = .ok k ρ1) (h1 : ρ1[i]? = some (.own (.lst ds))) (hg : gIx (.list ds) k = some z) : eIxP i mb ρ = .ok z ρ1 := by
  unfold eIxP onSlot; rw [h]; simp only []; rw [bind_ok hb]; unfold slotL; rw [h1]; simp only [hg, M.opt]
theorem eIxP_fz {i : Nat} {d : D} {mb : M D} {k z : D} (h : ρ[i]? = some (.fz d)) (hb : mb ρ = .ok k ρ1) (hg : gIx d k = some z) : eIxP i mb ρ = .ok z ρ1 := by
  unfold eIxP onSlot; rw [h]; simp only []; rw [bind_ok hb, hg]; rfl
theorem sSeq_ok {a b : M Flw} {r : Out Flw} (ha : a ρ = .ok .next ρ1) (hb : b ρ1 = r) : sSeq a b ρ = r := by unfold sSeq; rw [bind_ok ha]; exact hb
theorem sSeq_ret {a b : M Flw} {s : Slot} (ha : a ρ = .ok (.ret s) ρ1) : sSeq a b ρ = .ok (.ret s) ρ1 := by unfold sSeq; rw [bind_ok ha]; rfl
theorem sSet_ok {i : Nat} {m : M D} {d : D} (h : m ρ = .ok d ρ1) (hi : i < ρ1.length) : sSet i m ρ = .ok .next (ρ1.set i (.fz d)) := by unfold sSet; rw [bind_ok h, if_pos hi]
theorem sSetO_ok {i : Nat} {m : M OC} {c : OC} (h : m ρ = .ok c ρ1) (hi : i < ρ1.length) : sSetO i m ρ = .ok .next (ρ1.set i (.own c)) := by unfold sSetO; rw [bind_ok h, if_pos hi]
theorem sDrop_ok {m : M D} {d : D} (h : m ρ = .ok d ρ1) : sDrop m ρ = .ok .next ρ1 := by unfold sDrop; rw [bind_ok h]; rfl
theorem sRet_ok {m : M D} {d : D} (h : m ρ = .ok d ρ1) : sRet m ρ = .ok (.ret (.fz d)) ρ1 := by unfold sRet; rw [bind_ok h]; rfl
theorem sRetO_ok {m : M OC} {d : OC} (h : m ρ = .ok d ρ1) : sRetO m ρ = .ok (.ret (.own d)) ρ1 := by unfold sRetO; rw [bind_ok h]; rfl
theorem sRetV_ok {i : Nat} {c : OC} (h : ρ[i]? = some (.own c)) : sRetV i ρ = .ok (.ret (.own c)) (ρ.set i .un) := by unfold sRetV; rw [h]
theorem sIf_t {c : M Bool} {a b : M Flw} {r : Out Flw} (hc : c ρ = .ok true ρ1) (h : a ρ1 = r) : sIf c a b ρ = r := by unfold sIf; rw [bind_ok hc]; exact h
theorem sIf_f {c : M Bool} {a b : M Flw} {r : Out Flw} (hc : c ρ = .ok false ρ1) (h : b ρ1 = r) : sIf c a b ρ = r := by unfold sIf; rw [bind_ok hc]; exact h
theorem sPar_ok {i j : Nat} {m : M (List D)} {d e : D} (h : m ρ = .ok [d, e] ρ1) (hi : i < ρ1.length ∧ j < ρ1.length) : sPar i j m ρ = .ok .next ((ρ1.set i (.fz d)).set j (.fz e)) := by unfold sPar; rw [bind_ok h]; exact if_pos hi
theorem sApp_ok {i : Nat} {mb : M D} {ds : List D} {d : D} (h : ρ[i]? = some (.own (.lst ds))) (hb : mb ρ = .ok d ρ1) (h1 : ρ1[i]? = some (.own (.lst ds))) (hl : ds.length < 16777216) : sApp i mb ρ = .ok .next (ρ1.set i (.own (.lst (ds ++ [d])))) := by
  unfold sApp slotL; rw [h]; simp only []; rw [bind_ok hb]; rw [h1]; simp only [if_pos hl]; rfl
theorem sSetIx_ok {i j : Nat} {mv mk : M D} {ds : List D} {d : D} {k : Int} (hv : mv ρ = .ok d ρ1) (h : ρ1[i]? = some (.own (.lst ds))) (hk : mk ρ1 = .ok (.int k) ρ2) (h1 : ρ2[i]? = some (.own (.lst ds))) (hj : ixN ds.length k = some j) : sSetIx i mv mk ρ = .ok .next (ρ2.set i (.own (.lst (ds.set j d)))) := by
  unfold sSetIx; rw [bind_ok hv]; unfold slotL; rw [h]; simp only []; rw [bind_ok hk]; rw [h1]; simp only [hj]; rfl
theorem fnP_ok {P : List Nat} {n N : Nat} {b : M Flw} {ss ρ ss' : Rho} {r : Slot} (ho : ownIn P ss = true) (hn : ss.length = n) (hb : b (ss ++ List.replicate (N - n) .un) = .ok (.ret r) ρ) (hs : backS ss ρ = some ss') : fnP P n N b ss = .ok r ss' := by
  unfold fnP fnM; rw [if_pos ho, if_pos hn, hb]; simp only [hs]
theorem fnP_next {P : List Nat} {n N : Nat} {b : M Flw} {ss ρ ss' : Rho} (ho : ownIn P ss = true) (hn : ss.length = n) (hb : b (ss ++ List.replicate (N - n) .un) = .ok .next ρ) (hs : backS ss ρ = some ss') : fnP P n N b ss = .ok (.fz .none) ss' := by
  unfold fnP fnM; rw [if_pos ho, if_pos hn, hb]; simp only [hs]
end
theorem set_nm {i : Nat} {d : D} {ρ : Rho} (hi : i < ρ.length) : (Tg.nm i).set d ρ = some (ρ.set i (.fz d)) := by unfold Tg.set; rw [if_pos hi]
theorem set_tp2 {i j : Nat} {a b : D} {ρ : Rho} (hi : i < ρ.length) (hj : j < ρ.length) : (Tg.tp [.nm i, .nm j]).set (.tuple [a, b]) ρ = some ((ρ.set i (.fz a)).set j (.fz b)) := by
  simp [Tg.set, Tg.setAll, hi, hj]
/-! ### data -/
abbrev lD (l : List Int) : D := .list (l.map .int)
abbrev tD2 (t : List (List Int)) : D := .list (t.map lD)
theorem ixN_nat {n k : Nat} {i : Int} (hi : i = k) (h : k < n) : ixN n i = some k := by
  subst hi; unfold ixN; rw [if_pos (by omega), if_pos (by omega)]; simp
theorem ixN_neg {n : Nat} (h : 0 < n) : ixN n (-1) = some (n - 1) := by
  unfold ixN; rw [if_neg (by omega), if_pos (by omega)]; congr 1; omega
theorem gIx_at {ds : List D} {i : Int} {n : Nat} {d : D} (hi : i = n) (h : ds[n]? = some d) : gIx (.list ds) (.int i) = some d := by
  have hl : n < ds.length := by
    rcases Nat.lt_or_ge n ds.length with z | z
    · exact z
    · rw [List.getElem?_eq_none z] at h; cases h
  show L2.atI ds i = _
  unfold L2.atI
  rw [ixN_nat hi hl]; exact h
theorem gIx_last {ds : List D} {i : Int} {d : D} (hi : i = -1) : gIx (.list (ds ++ [d])) (.int i) = some d := by
  subst hi
  show L2.atI _ _ = _
  unfold L2.atI
  rw [ixN_neg (by simp)]; simp
theorem map_at {α β : Type} {f : α → β} {l : List α} {n : Nat} {x : α} (h : l[n]? = some x) : (l.map f)[n]? = some (f x) := by simp [h]
theorem gSum_ints {l : List Int} : gSum [lD l] = some (.int l.sum) := by show (intsOf _).map _ = _; rw [intsOf_map]; rfl
theorem okMul_ok {i j : Int} {a b : Nat} (hi : i.natAbs < 2 ^ a) (hj : j.natAbs < 2 ^ b) (hab : a + b ≤ 900000) : okMul i j = true := by
  unfold okMul
  simp only [Bool.or_eq_true, decide_eq_true_eq]
  refine .inr ?_
  have h1 : i.natAbs.log2 ≤ a := by
    by_cases z : i.natAbs = 0
    · rw [z]; simp
    · exact Nat.le_of_lt ((Nat.log2_lt z).mpr hi)
  have h2 : j.natAbs.log2 ≤ b := by
    by_cases z : j.natAbs = 0
    · rw [z]; simp
    · exact Nat.le_of_lt ((Nat.log2_lt z).mpr hj)
  omega
theorem gMul_ok {i j : Int} {a b : Nat} (hi : i.natAbs < 2 ^ a) (hj : j.natAbs < 2 ^ b) (hab : a + b ≤ 900000) : gMul (.int i) (.int j) = some (.int (i * j)) := by
  show (if okMul i j then _ else _) = _
  rw [if_pos (okMul_ok hi hj hab)]
theorem rng1_ok {n : Nat} {i : Int} (hi : i = n) (h : n ≤ 16777216) : rng1 [.int i] = some ((List.range n).map fun (k : Nat) => PyData.int k) := by
  subst hi
  show rngD 0 _ = _
  rw [rngD_ok (by omega)]
  simp
theorem rng2_ok {n : Nat} {lo hi : Int} {a : Nat} (hl : lo = a) (hh : hi = (a + n : Nat)) (h : a + n ≤ 16777216) : rng2 [.int lo, .int hi] = some ((List.range n).map fun (k : Nat) => PyData.int (a + k : Nat)) := by
  subst hl hh
  show rngD _ _ = _
  rw [rngD_ok (by omega), show ((((a + n : Nat) : Int)) - (a : Int)).toNat = n by omega]
  simp
theorem range_at {α : Type} {n k : Nat} {d : α} {f : Nat → α} (h : ((List.range n).map f)[k]? = some d) : k < n ∧ d = f k := by
  rw [List.getElem?_map] at h
  by_cases hk : k < n
  · rw [List.getElem?_range hk] at h; exact ⟨hk, (Option.some.inj h).symm⟩
  · rw [List.getElem?_eq_none (by simpa using hk)] at h; cases h
theorem zip_map {α β : Type} {f : α → D} {g : β → D} : ∀ (xs : List α) (ys : List β), List.zipWith (fun a b => PyData.tuple [a, b]) (xs.map f) (ys.map g) = (xs.zip ys).map fun p => PyData.tuple [f p.1, g p.2]
  | [], _ => by simp
  | _ :: _, [] => by simp
  | x :: xs, y :: ys => by simp [zip_map xs ys]
/-! ### texts of small data -/
theorem shown_int {i : Int} {k : Nat} (h0 : 0 ≤ i) (hk : 0 < k) (h : i < 10 ^ k) : (PyData.shown (.int i)).length ≤ k := by
  simp only [PyData.shown]
  exact PyProof.Rows.toString_length_le h0 hk h
theorem repr_ok {d : D} (B : Nat) (hB : 8 ≤ B) (h1 : d.showable = true) (h2 : d.depth ≤ 64) (h3 : d.leavesShort B = true) (h4 : (B + 2) * d.weight + B ≤ 16777216) (h5 : d.canLay0 = true) : gRepr [d] = some (.str d.shown) := by
  have := PyData.shown_le B hB d h3
  show reprD d = _
  unfold reprD
  rw [h1, h5, decide_eq_true h2, decide_eq_true (Nat.le_trans this h4)]
  rfl
end DL

/-! DLk: the laws' own draws. -/
namespace DL
open PySem PySem.Spec L2
theorem gFdiv_ok {i j : Int} (h : 0 < j) (hj : j < 2 ^ 64) : gFdiv (.int i) (.int j) = some (.int (i / j)) := by
  show (if _ then _ else _) = _
  rw [if_pos]
  have : j.natAbs.log2 < 64 := (Nat.log2_lt (by omega)).mpr (by omega)
  exact decide_eq_true ⟨h, by omega⟩
theorem gMod_ok {i j : Int} (h : 0 < j) : gMod (.int i) (.int j) = some (.int (i % j)) := by
  show (if _ then _ else _) = _
  rw [if_pos (decide_eq_true h)]
theorem gPow_ok {i : Int} {n : Nat} (hn : n ≤ 1000) (h : i.natAbs < 2 ^ 250) : gPow (.int i) (.int n) = some (.int (i ^ n)) := by
  show (if _ then _ else _) = _
  rw [if_pos (decide_eq_true ⟨by omega, by omega, h⟩)]; simp
theorem gMulL {i j : Int} (h : i.natAbs < 2 ^ 64) : gMul (.int i) (.int j) = some (.int (i * j)) := by
  show (if okMul i j then _ else _) = _
  rw [if_pos (by simp [okMul, h])]
/-- the source of draws, k draws taken -/
def SrcOk (k : Nat) (l : List D) : Prop := ∃ a b c : Int, l = [.int a, .int b, .int c] ∧ 0 ≤ a ∧ 0 ≤ b ∧ b < 10 ^ 39 + 3 ∧ 0 ≤ c ∧ c ≤ k
def bSource : M Flw := (sRetO (oLst (eCons (eCall gMax (eCons (eC (.int 0)) (eCons (eBin DL.gSub (eCall gAbs (eCons (eVar 0) eNil)) (eBin gPow (eC (.int 10)) (eC (.int 18)))) eNil))) (eCons (eBin gMod (eVar 0) (eBin gAdd (eBin gPow (eC (.int 10)) (eC (.int 39))) (eC (.int 3)))) (eCons (eC (.int 0)) eNil)))))
theorem e_source {x : Int} : ∃ l, SrcOk 0 l ∧ fnP [] 1 1 bSource [.fz (.int x)] = .ok (.own (.lst l)) [.fz (.int x)] := by
  refine' ⟨_, ⟨_, _, _, rfl, ?_, ?_, ?_, Int.le_refl 0, Int.le_refl 0⟩, fnP_ok rfl rfl (sRetO_ok (oLst_ok (eCons_ok (eCall_ok (eCons_ok rfl (eCons_ok (eBin_ok (eCall_ok (eCons_ok (eVar_ok rfl) rfl) rfl) (eBin_ok rfl rfl (gPow_ok (n := 18) (by decide) (by decide))) rfl) rfl)) rfl) (eCons_ok (eBin_ok (eVar_ok rfl) (eBin_ok (eBin_ok rfl rfl (gPow_ok (n := 39) (by decide) (by decide))) rfl rfl) (gMod_ok (by decide))) (eCons_ok rfl rfl))) (by simp))) rfl⟩
  · split <;> omega
  · exact Int.emod_nonneg _ (by decide)
  · exact Int.emod_lt_of_pos _ (by decide)
def bDraw : M Flw := (sSeq (sIf (asB (eBin gGt (eIxP 0 (eC (.int 0))) (eC (.int 0))))
    (sSeq (sSet 2 (eBin gMod (eIxP 0 (eC (.int 0))) (eVar 1)))
    (sSeq (sSetIx 0 (eBin gFdiv (eIxP 0 (eC (.int 0))) (eVar 1)) (eC (.int 0)))
    (sRet (eVar 2))))
    sNext)
    (sSeq (sSetIx 0 (eBin gAdd (eIxP 0 (eC (.int 2))) (eC (.int 1))) (eC (.int 2)))
    (sSeq (sSet 3 (eBin gMod (eBin gPow (eBin gAdd (eIxP 0 (eC (.int 1))) (eBin gMul (eC (.int 15487469)) (eIxP 0 (eC (.int 2))))) (eC (.int 3))) (eBin gAdd (eBin gPow (eC (.int 10)) (eC (.int 41))) (eC (.int 37)))))
    (sSeq (sSet 3 (eBin gMod (eBin gPow (eBin gAdd (eVar 3) (eBin gMul (eC (.int 32452867)) (eIxP 0 (eC (.int 2))))) (eC (.int 3))) (eBin gAdd (eBin gPow (eC (.int 10)) (eC (.int 40))) (eC (.int 121)))))
    (sRet (eBin gMod (eBin gFdiv (eVar 3) (eC (.int 2750159))) (eVar 1)))))))
theorem pow250 : (10 : Int) ^ 60 < 2 ^ 250 := by decide
theorem natAbs250 {x : Int} (h0 : 0 ≤ x) (h : x < 10 ^ 60) : x.natAbs < 2 ^ 250 := by
  have := pow250
  omega
theorem e_draw {l : List D} {k : Nat} {m : Int} (h : SrcOk k l) (hk : k ≤ 1000000) (hm : 0 < m) (hm2 : m < 2 ^ 64) : ∃ l' r, SrcOk (k + 1) l' ∧ 0 ≤ r ∧ r < m ∧ fnP [0] 2 4 bDraw [.own (.lst l), .fz (.int m)] = .ok (.fz (.int r)) [.own (.lst l'), .fz (.int m)] := by
  obtain ⟨a, b, c, rfl, ha, hb, hb2, hc, hc2⟩ := h
  by_cases za : 0 < a
  · refine' ⟨_, _, ⟨a / m, b, c, rfl, Int.ediv_nonneg ha (by omega), hb, hb2, hc, by omega⟩, Int.emod_nonneg a (by omega), Int.emod_lt_of_pos a hm, fnP_ok rfl rfl (sSeq_ret (sIf_t (asB_ok (eBin_ok (eIxP_own rfl rfl rfl rfl) rfl ?g1)) (sSeq_ok (sSet_ok (eBin_ok (eIxP_own rfl rfl rfl rfl) (eVar_ok rfl) (gMod_ok hm)) (by simp)) (sSeq_ok (sSetIx_ok (j := 0) (eBin_ok (eIxP_own rfl rfl rfl rfl) (eVar_ok rfl) (gFdiv_ok hm hm2)) rfl rfl rfl rfl) (sRet_ok (eVar_ok rfl)))))) rfl⟩
    case g1 => exact congrArg (fun x => some (PyData.bool x)) (decide_eq_true za)
  · refine' ⟨_, _, ⟨a, b, c + 1, rfl, ha, hb, hb2, by omega, by omega⟩, ?r1, ?r2, fnP_ok rfl rfl (sSeq_ok (sIf_f (asB_ok (eBin_ok (eIxP_own rfl rfl rfl rfl) rfl ?g2)) rfl) (sSeq_ok (sSetIx_ok (j := 2) (eBin_ok (eIxP_own rfl rfl rfl rfl) rfl rfl) rfl rfl rfl rfl) (sSeq_ok (sSet_ok (eBin_ok (eBin_ok (eBin_ok (eIxP_own rfl rfl rfl rfl) (eBin_ok rfl (eIxP_own rfl rfl rfl rfl) (gMulL (by decide))) rfl) rfl (gPow_ok (n := 3) (by decide) ?p1)) (eBin_ok (eBin_ok rfl rfl (gPow_ok (n := 41) (by decide) (by decide))) rfl rfl) (gMod_ok (by decide))) (by simp)) (sSeq_ok (sSet_ok (eBin_ok (eBin_ok (eBin_ok (eVar_ok rfl) (eBin_ok rfl (eIxP_own rfl rfl rfl rfl) (gMulL (by decide))) rfl) rfl (gPow_ok (n := 3) (by decide) ?p2)) (eBin_ok (eBin_ok rfl rfl (gPow_ok (n := 40) (by decide) (by decide))) rfl rfl) (gMod_ok (by decide))) (by simp)) (sRet_ok (eBin_ok (eBin_ok (eVar_ok rfl) rfl (gFdiv_ok (by decide) (by decide))) (eVar_ok rfl) (gMod_ok hm))))))) rfl⟩
    case g2 => exact congrArg (fun x => some (PyData.bool x)) (decide_eq_false za)
    case r1 => exact Int.emod_nonneg _ (by omega)
    case r2 => exact Int.emod_lt_of_pos _ hm
    case p1 =>
      refine natAbs250 ?_ ?_ <;> omega
    case p2 =>
      have h1 := Int.emod_nonneg ((b + 15487469 * (c + 1)) ^ 3) (b := 10 ^ 41 + 37) (by decide)
      have h2 := Int.emod_lt_of_pos ((b + 15487469 * (c + 1)) ^ 3) (b := 10 ^ 41 + 37) (by decide)
      generalize (b + 15487469 * (c + 1)) ^ 3 % (10 ^ 41 + 37) = z at h1 h2 ⊢
      refine natAbs250 ?_ ?_ <;> omega
/-! ### texts are texts -/
mutual
def plainD : D → Bool
  | .none | .bool _ | .int _ => true
  | .list xs | .tuple xs => plainAll xs
  | .str _ | .dict _ => false
def plainAll : List D → Bool
  | [] => true
  | x :: xs => plainD x && plainAll xs
end
theorem hi_list {k : Nat} (hk : 0x110000 ≤ k) {ts : List Str} (h : ∀ t ∈ ts, k ∉ t.cps.toList) : k ∉ (Str.join ", " ts).cps.toList := fun hm => by
  rw [PyProof.Rows.mem_join] at hm
  rcases hm with ⟨t, ht, hc⟩ | ⟨_, hc⟩
  · exact h t ht hc
  · rw [PyProof.Rows.signs_sep] at hc; simp at hc; omega
mutual
theorem shown_hi {k : Nat} (hk : 0x110000 ≤ k) : ∀ d : D, plainD d = true → k ∉ d.shown.cps.toList
  | .none, _ => by
    rw [PyData.shown_none]
    have e : (("None" : String) : Str).cps.toList = [78, 111, 110, 101] := by decide
    rw [e]; simp; omega
  | .bool b, _ => by
    rw [PyData.shown_bool]
    cases b
    · have e : (("False" : String) : Str).cps.toList = [70, 97, 108, 115, 101] := by decide
      show k ∉ (("False" : String) : Str).cps.toList
      rw [e]; simp; omega
    · have e : (("True" : String) : Str).cps.toList = [84, 114, 117, 101] := by decide
      show k ∉ (("True" : String) : Str).cps.toList
      rw [e]; simp; omega
  | .int i, _ => PyProof.Rows.shown_int_free' (by omega) i
  | .list xs, h => by
    have ih := shownAll_hi hk xs (by simpa [plainD] using h)
    rw [PyData.shown_list, PyProof.Rows.mem_cps_append, PyProof.Rows.mem_cps_append, PyProof.Rows.signs_lbrack, PyProof.Rows.signs_rbrack]
    rintro ((hm | hm) | hm)
    · simp at hm; omega
    · exact hi_list hk ih hm
    · simp at hm; omega
  | .tuple xs, h => by
    have ih := shownAll_hi hk xs (by simpa [plainD] using h)
    rw [PyData.shown_tuple, PyProof.Rows.mem_cps_append, PyProof.Rows.mem_cps_append, PyProof.Rows.signs_lparen]
    rintro ((hm | hm) | hm)
    · simp at hm; omega
    · exact hi_list hk ih hm
    · split at hm
      · rw [show ((",)" : String) : Str).cps.toList = [44, 41] by decide] at hm; simp at hm; omega
      · rw [show ((")" : String) : Str).cps.toList = [41] by decide] at hm; simp at hm; omega
  | .str _, h => by simp [plainD] at h
  | .dict _, h => by simp [plainD] at h
theorem shownAll_hi {k : Nat} (hk : 0x110000 ≤ k) : ∀ xs : List D, plainAll xs = true → ∀ t ∈ PyData.shownAll xs, k ∉ t.cps.toList
  | [], _, t, ht => by rw [PyData.shownAll_nil] at ht; exact absurd ht (by simp)
  | x :: r, h, t, ht => by
    simp only [plainAll, Bool.and_eq_true] at h
    rw [PyData.shownAll_cons, List.mem_cons] at ht
    rcases ht with e | ht
    · rw [e]; exact shown_hi hk x h.1
    · exact shownAll_hi hk r h.2 t ht
end
theorem strOk_shown {d : D} (h : plainD d = true) : PyData.strOk d.shown = true := by
  unfold PyData.strOk
  rw [← Array.all_toList, List.all_eq_true]
  intro c hc
  refine decide_eq_true ?_
  rcases Nat.lt_or_ge c 0x110000 with z | z
  · exact z
  · exact absurd hc (shown_hi z d h)
theorem gNe_shown {d : D} (h : plainD d = true) : gNe (.str d.shown) (.str d.shown) = some (.bool false) := by
  have s := strOk_shown h
  have : SeqAt.shaped (.str d.shown) = true := by simp [SeqAt.shaped, PyData.canLay0, s, PyData.depth]
  unfold gNe
  rw [this]
  simp [PyData.eqv]
/-! ### what a run leaves -/
def Wp {α : Type} (m : M α) (ρ : Rho) (Q : α → Rho → Prop) : Prop := ∃ a ρ', m ρ = .ok a ρ' ∧ Q a ρ'
theorem wp_ok {α : Type} {m : M α} {ρ ρ' : Rho} {a : α} {Q : α → Rho → Prop} (h : m ρ = .ok a ρ') (q : Q a ρ') : Wp m ρ Q := ⟨_, _, h, q⟩
theorem wp_seq {a b : M Flw} {ρ : Rho} {Q : Flw → Rho → Prop} (h : Wp a ρ (fun f ρ1 => f = .next ∧ Wp b ρ1 Q)) : Wp (sSeq a b) ρ Q := by
  obtain ⟨_, ρ1, e, rfl, ⟨f, ρ2, e2, q⟩⟩ := h
  exact ⟨f, ρ2, sSeq_ok e e2, q⟩
theorem wp_seq1 {a b : M Flw} {ρ ρ1 : Rho} {Q : Flw → Rho → Prop} (e : a ρ = .ok .next ρ1) (h : Wp b ρ1 Q) : Wp (sSeq a b) ρ Q := wp_seq (wp_ok e ⟨rfl, h⟩)
theorem wp_for {mi : M (List D)} {g : Tg} {b : M Flw} {ds : List D} {ρ ρ0 : Rho} {Q : Flw → Rho → Prop} (I : Nat → Rho → Prop) (hm : mi ρ = .ok ds ρ0) (h0 : I 0 ρ0)
    (st : ∀ k d ρ, ds[k]? = some d → I k ρ → ∃ ρ1, g.set d ρ = some ρ1 ∧ Wp b ρ1 fun f ρ2 => (f = .next ∨ f = .cont) ∧ I (k + 1) ρ2) (q : ∀ ρ', I ds.length ρ' → Q .next ρ') : Wp (sFor mi g b) ρ Q := by
  obtain ⟨ρ', e, h⟩ := sFor_inv (g := g) (b := b) I hm h0 fun k d ρ hk hi => by
    obtain ⟨ρ1, e1, f, ρ2, e2, e3, i2⟩ := st k d ρ hk hi
    exact ⟨ρ1, ρ2, e1, by rcases e3 with rfl | rfl; exact .inl e2; exact .inr e2, i2⟩
  exact ⟨_, _, e, q _ h⟩
theorem fnP_wp {P : List Nat} {n N : Nat} {b : M Flw} {ss ss' : Rho} {r : Slot} (ho : ownIn P ss = true) (hn : ss.length = n) (hb : Wp b (ss ++ List.replicate (N - n) .un) fun f ρ => f = .ret r ∧ backS ss ρ = some ss') : fnP P n N b ss = .ok r ss' := by
  obtain ⟨_, ρ, e, rfl, h⟩ := hb
  exact fnP_ok ho hn e h
theorem callF_rf1 {F : M Slot} {i : Nat} {c c' : OC} {d : D} {r : Slot} {ρ : Rho} (h : ρ[i]? = some (.own c)) (hf : F [.own c, .fz d] = .ok r [.own c', .fz d]) : callF F [.rf i, .fz d] ρ = .ok r (ρ.set i (.own c')) := by
  simp [callF, ndA, argSlots, argSlot, h, hf, backR, isOwn]
theorem pick2 {x y : Int} (t : Nat) : ∃ v, (v = x ∨ v = y) ∧ gIx (.list [.int x, .int y]) (.int ((t : Int) % 2)) = some (.int v) := by
  rcases Nat.mod_two_eq_zero_or_one t with h | h
  · exact ⟨x, .inl rfl, gIx_at (n := 0) (by omega) rfl⟩
  · exact ⟨y, .inr rfl, gIx_at (n := 1) (by omega) rfl⟩
theorem e_len_scr {ns : List Int} : gLen [scrD ns] = some (.int ns.length) := by
  show some (PyData.int _) = _
  rw [List.length_map]
end DL

/-! DLl: more rules: enumerate, several stores at once, stars in displays, two walks in one comprehension. -/
namespace DL
open PySem PySem.Spec L2
open PyProof.Rows (envOfC)

/-! ### enumerate(tuple) -/
def IteT (K : PySem.W.Frag) (a : Addr) : It :=
  ⟨fun i H => ∃ (ys : List V) (y : V), SqT K H a ys ∧ ys[i]? = some y, fun i H v H' => ∃ T y, v = .ref T ∧ H T = none ∧ H' = upd H T (.tup [.int (i : Nat), y]) ∧ ∀ ys, SqT K H a ys → ys[i]? = some y, fun i H => ∃ ys : List V, SqT K H a ys ∧ ys.length ≤ i⟩
theorem turn_enumT {P : Program} {w : World} {K : PySem.W.Frag} {elts : List Expr} {kk : Nat} {tpos : Pos} (a e it : Addr) (hai : a ≠ it) :
    Turn P w K (.Tuple elts kk tpos) (IteT K a) [e, it] e (fun i h => (∃ old, IsEnum h e it ((i : Nat) : Int) old) ∧ h.IsTupleIter it a i ∧ e ≠ it) where
  mem := by simp
  obj := fun i h st b hb => by
    obtain ⟨⟨old, hE⟩, ⟨o, ho, hc, hd⟩, _⟩ := st
    rcases (show b = e ∨ b = it by simpa using hb) with z | z
    · subst z; exact ⟨_, hE, fun v q => nomatch q⟩
    · subst z; exact ⟨o, ho, fun v q => by rw [hd] at q; cases q⟩
  keep := fun i h h2 st k => by
    obtain ⟨⟨old, hE⟩, hT, hne⟩ := st
    exact ⟨⟨old, k e (by simp) _ hE⟩, hT.at fun o q => k it (by simp) o q, hne⟩
  item := by
    intro X hP hw hK hc i pins s σ H E I hf st hg
    subst hP hw hK
    obtain ⟨⟨old, hE⟩, hT, hne⟩ := st
    obtain ⟨ys, y, hq, hy⟩ := hg
    obtain ⟨its, rv, p, hz⟩ := I.tuple hq
    obtain ⟨u, hu, ru⟩ := rv.get hy
    have hel : e < s.heap.objs.size := Heap.lt_size hE
    have hil : it < s.heap.objs.size := by obtain ⟨_, q, _⟩ := hT; exact Heap.lt_size q
    have hlt : i < its.toArray.size := by
      rcases Nat.lt_or_ge i its.toArray.size with z | z
      · exact z
      · rw [List.getElem?_eq_none (by simpa using z)] at hu; cases hu
    refine wpAny_pyNext_enum_itemD (Draws.tuple (A := X.A.in1) (show X.A.in1.handled = none from I.ok.hd hc) it a hai its.toArray) hE ⟨hT, p⟩ hlt hne ?notin fun x h1 tk hx ho st1 hT1 hsz hk => ?_
    case notin =>
      intro z
      rcases (show e = it ∨ e = a by simpa using z) with z | z
      · exact hne z
      · subst z
        obtain ⟨o, ho, ho2, _⟩ := p
        rw [hE] at ho
        cases ho
        exact absurd ho2 (by simp)
    have hxu : x = u := by
      have : its.toArray[i]? = some u := by simpa using hu
      rw [this] at hx
      exact (Option.some.inj hx).symm
    subst hxu
    refine ⟨_, rfl, wpAny_letOwnedTupleGo_enum (s := { s with heap := h1, toks := tk + 1 }) ho fun h2 hE2 sb => ?_⟩
    have hT2 : h2.get? s.heap.objs.size = some { cls := .type "tuple", data := .seq #[.int i tk, x] } := (sb.2 _ (Nat.ne_of_gt hel)).trans hT1
    have new : ObjOk X.prog X.w (upd H s.heap.objs.size (.tup [.int (i : Nat), y])) h2 s.heap.objs.size (.tup [.int (i : Nat), y]) :=
      ⟨by show 2 ≤ sizeLine; decide, [.int i tk, x], .cons ⟨_, rfl⟩ (.cons ru .nil), ⟨_, hT2, rfl, _, rfl⟩⟩
    have I1 : Inv X pins σ (upd H s.heap.objs.size (.tup [.int (i : Nat), y])) { s with heap := h2, toks := tk + 1 } :=
      I.turnedNew (ch := [e, it]) (fun b ob hb q => (sb.2 b (fun z => hb (by simp [z]))).trans (hk b ob (fun z => hb (by simp [z])) (fun z => hb (by simp [z])) q)) hf (Nat.le_refl _) new
    refine ⟨.ref s.heap.objs.size, _, I1, rfl, ⟨_, y, rfl, I.hok.fresh (Nat.le_refl _), rfl, fun zs hz' => by rw [I.tuple_inj hz' hq]; exact hy⟩, ⟨⟨x, ?_⟩, st1.1.at fun o q => (sb.2 it (Ne.symm hne)).trans q, hne⟩, fun b hb => ?_⟩
    · rw [show ((i + 1 : Nat) : Int) = (i : Int) + 1 by omega]; exact hE2
    · have hb2 : b < s.heap.objs.size := by
        rcases (show b = e ∨ b = it by simpa using hb) with z | z
        · rw [z]; exact hel
        · rw [z]; exact hil
      rw [upd_ne (Nat.ne_of_lt hb2)]
      exact (hf b hb).1
  done := by
    intro X hP hw hK hc i pins s σ H E I hf st hg
    subst hP hw hK
    obtain ⟨⟨old, hE⟩, hT, hne⟩ := st
    obtain ⟨ys, hq, hx⟩ := hg
    obtain ⟨its, rv, p, hz⟩ := I.tuple hq
    obtain ⟨f0, f1, f2, f3, f4, f5⟩ := hf it (by simp)
    have hl := rv.length
    have Dn : Draws X.prog X.w X.A.in1 it [it, a] i (fun _ _ => False) (fun j h => j = i ∧ h.IsTupleIter it a i ∧ h.IsTuple a its.toArray) := {
      live := fun _ _ st => let ⟨o, ho, _⟩ := st.2.1; ⟨o, ho⟩
      frame := fun _ _ _ st hk => ⟨st.1, st.2.1.at fun o q => hk it (by simp) o q, st.2.2.at fun o q => hk a (by simp) o q⟩
      item := fun j s Q E hi st _ => absurd st.1 (Nat.ne_of_lt hi)
      done := fun s Q E st hE => PySem.wpAny_nextOf_tuple_end (show X.A.in1.handled = none from I.ok.hd hc) st.2.1 st.2.2 (by simp; omega) hE }
    exact wpAny_pyNext_enum_endD Dn hE ⟨rfl, hT, p⟩ fun h1 eb => ⟨rfl, I.turned (t' := s.toks) (fun b o hb q => eb b o hb q) f0 f1 f3 f4 f5⟩
  self := fun A i s Q E st h => let ⟨⟨_, hE⟩, _⟩ := st; wpAny_pyIter_enum hE h
theorem typeCall_enum1 (v : Value) : checkTypeCall "enumerate" ⟨[v], []⟩ = pure () := F.typeCall_enumerate_1 v
set_option maxHeartbeats 1000000 in
theorem meets_enum1 {v : Value} {o : Obj} {H : Heap → Prop} (B : Begins v o H) :
    Meets (Builtin.«enumerate.__new__» ⟨[.type "enumerate", v], []⟩) (fun _ R s => H s.heap ∧
      R (.ok (.ret (.ref (s.heap.push o).objs.size))) { s with heap := (s.heap.push o).push { cls := .type "enumerate", data := .fields #[.none, .bool false, .ref s.heap.objs.size, rawInt 0, .none, .none] } }) :=
  .of_wp fun prog w A R s ⟨b1, b2⟩ => by
    obtain ⟨hp, gs, d, tk, os⟩ := s
    have hsub := sub_enumerate
    have go : ∀ {A' : Around} {E : Value → Shared → Prop} {Q : Value → Shared → Prop}, Q (.ref hp.objs.size) ⟨hp.push o, gs, d, tk, os⟩ → wpAny (model prog w) A' (pyIter v) Q E ⟨hp, gs, d, tk, os⟩ :=
      fun q => B.iter prog w _ _ ⟨hp, gs, d, tk, os⟩ _ b1 q
    wp_walk using go
    refine wpAny_stack_any fun st => wpAny_pure ?_
    split
    · rename_i c _ _ _ _ _
      cases (c == Value.type "enumerate") <;> (wp_walk using go; exact ⟨_, rfl, b2⟩)
    · wp_walk using go
      exact ⟨_, rfl, b2⟩
theorem call_enum1 {prog : Program} {w : World} {A : Around} {E : Value → Shared → Prop} {s : Shared} {v : Value} {o : Obj} {H : Heap → Prop} {Q : Value → Shared → Prop} (B : Begins v o H) (h1 : H s.heap)
    (h : ∀ h2, IsEnum h2 (s.heap.objs.size + 1) s.heap.objs.size 0 .none → h2.get? s.heap.objs.size = some o → h2.objs.size = s.heap.objs.size + 2 → (∀ b o, s.heap.get? b = some o → h2.get? b = some o) → Q (.ref (s.heap.objs.size + 1)) { s with heap := h2 }) :
    wpAny (model prog w) A (call (.type "enumerate") [v]) Q E s := by
  refine callType_new F.called_enumerate (by decide) (F.typeCall_enumerate_1 _) (F.newCall_enumerate_1 _) (fun obj => F.args_object_init_2 obj _) F.entry_enumerate_new (meets_enum1 B) ⟨h1, ?_⟩
  have z : (s.heap.push o).objs.size = s.heap.objs.size + 1 := Heap.size_push ..
  rw [z]
  have hE : IsEnum ((s.heap.push o).push { cls := .type "enumerate", data := .fields #[.none, .bool false, .ref s.heap.objs.size, rawInt 0, .none, .none] }) (s.heap.objs.size + 1) s.heap.objs.size 0 .none := by
    have q := Heap.get?_push_size (s.heap.push o) (o := { cls := .type "enumerate", data := .fields #[.none, .bool false, .ref s.heap.objs.size, rawInt 0, .none, .none] }) rfl
    rw [z] at q; exact q
  exact ⟨⟨_, hE, rfl⟩, h _ hE (Heap.get?_push_of_some _ (Heap.get?_push_size _ B.free)) (by rw [Heap.size_push, z]) fun b o x => Heap.get?_push_of_some _ (Heap.get?_push_of_some _ x)⟩
def iEnumT (K : PySem.W.Frag) (ta : TA) : TI := fun σ H R => ta σ H fun vs H1 => ∃ a ys, vs = [.ref a] ∧ SqT K H1 a ys ∧ R (IteT K a) H1
theorem pi_enumT {X : Cx} {e : Expr} {ta : TA} {p pos tpos : Pos} {elts : List Expr} {kk : Nat} (hg : Gl X "enumerate") (hm : X.mg "enumerate" = none) (ha : PA X [e] ta) (hs : starEach [e] X.env = [(false, eval e X.env)] := by rfl) :
    PI X (.Tuple elts kk tpos) (.Call (.Name "enumerate" p) [e] [] pos) (iEnumT X.K ta) := by
  refine ⟨fun pins s σ H R I h => ?_⟩
  refine PyProof.Rows.Call_ (ld_blt I hg hm PyProof.Rows.boot_enumerate (PyProof.Rows.callWith_type1 (thn (ha.run pos pins s σ H _ I h) fun us s1 ⟨vs, H1, I1, r1, q1⟩ => ?_) hs rfl))
  obtain ⟨a, ys, rfl, hq, q⟩ := q1
  cases r1 with
  | cons r rr =>
    cases rr
    cases r
    obtain ⟨its, rv, tp, hz⟩ := I1.tuple hq
    have hal : a < s1.heap.objs.size := by obtain ⟨o, ho, _⟩ := tp; exact Heap.lt_size ho
    refine call_enum1 (begins_tuple a its.toArray) tp fun h2 hE hit hsz hk => wpAny_pyIter_enum hE ?_
    have I2 : Inv X pins σ H1 { s1 with heap := h2 } := I1.kept (t' := s1.toks) hk
    refine ⟨s1.heap.objs.size + 1, [s1.heap.objs.size + 1, s1.heap.objs.size], _, _, H1, rfl, I2, turn_enumT a (s1.heap.objs.size + 1) s1.heap.objs.size (Nat.ne_of_lt hal), ⟨⟨.none, hE⟩, ⟨_, hit, rfl, rfl⟩, Nat.succ_ne_self _⟩, fun b hb => ?_, q⟩
    have hle : s1.heap.objs.size ≤ b := by
      rcases (show b = s1.heap.objs.size + 1 ∨ b = s1.heap.objs.size by simpa using hb) with z | z
      · rw [z]; exact Nat.le_add_right _ _
      · rw [z]; exact Nat.le_refl _
    exact I1.fpOk hle (I1.hok.fresh hle)
end DL

/-! DLm: more rules for printed derivations. -/
namespace DL
open PySem PySem.Spec L2
open PyProof.Rows (envOfC)
def enumL (xs : List D) : List D := xs.mapIdx fun i x => .tuple [.int (i : Nat), x]
def enumD : List D → Option (List D)
  | [.list xs] => some (enumL xs)
  | [.tuple xs] => some (enumL xs)
  | _ => none
theorem enumL_at {xs : List D} {i : Nat} {d : D} (h : (enumL xs)[i]? = some d) : ∃ x, xs[i]? = some x ∧ d = .tuple [.int (i : Nat), x] := by
  unfold enumL at h
  rw [List.getElem?_mapIdx] at h
  cases e : xs[i]? with
  | none => rw [e] at h; cases h
  | some x => rw [e] at h; cases h; exact ⟨x, rfl, rfl⟩
theorem itOk_enum {K : PySem.W.Frag} {a : Addr} {xs : List V} {ds : List D} {G0 : Hp} (h1 : G0 a = some (.lst xs)) (r1 : RpAll K G0 xs ds) (hz : xs.length ≤ sizeLine) : ItOk K (Ite K a) (enumL ds) G0 where
  sz := by rw [enumL, List.length_mapIdx, ← r1.length]; exact hz
  at_ := fun i G H d s1 s2 e => by
    obtain ⟨x, e1, rfl⟩ := enumL_at e
    obtain ⟨v, f1, f2⟩ := r1.getD e1
    have q1 : SqL K H a xs := SqL.of (s2 _ _ (s1 _ _ h1))
    refine ⟨⟨xs, v, q1, f1⟩, fun y H' ⟨T, y', e3, e4, e5, e6⟩ => ?_⟩
    have w1 := e6 xs q1
    rw [f1] at w1; cases w1
    subst e3 e5
    exact pair_new s2 e4 (.int _) (f2.mono s1)
  fin := fun G H s1 s2 => ⟨xs, SqL.of (s2 _ _ (s1 _ _ h1)), by rw [enumL, List.length_mapIdx, r1.length]; omega⟩
theorem itOk_enumT {K : PySem.W.Frag} {a : Addr} {xs : List V} {ds : List D} {G0 : Hp} (h1 : G0 a = some (.tup xs)) (r1 : RpAll K G0 xs ds) (hz : xs.length ≤ sizeLine) : ItOk K (IteT K a) (enumL ds) G0 where
  sz := by rw [enumL, List.length_mapIdx, ← r1.length]; exact hz
  at_ := fun i G H d s1 s2 e => by
    obtain ⟨x, e1, rfl⟩ := enumL_at e
    obtain ⟨v, f1, f2⟩ := r1.getD e1
    have q1 : SqT K H a xs := s2.seqT (s1 _ _ h1)
    refine ⟨⟨xs, v, q1, f1⟩, fun y H' ⟨T, y', e3, e4, e5, e6⟩ => ?_⟩
    have w1 := e6 xs q1
    rw [f1] at w1; cases w1
    subst e3 e5
    exact pair_new s2 e4 (.int _) (f2.mono s1)
  fin := fun G H s1 s2 => ⟨xs, s2.seqT (s1 _ _ h1), by rw [enumL, List.length_mapIdx, r1.length]; omega⟩
section
variable {X : Cx} {Γ : Gm} {W : WX} {P : List Nat} {pos : Pos}
theorem PI.or {tg l : Expr} {t u : TI} (h1 : PI X tg l t) (h2 : PI X tg l u) : PI X tg l fun σ H R => t σ H R ∨ u σ H R :=
  ⟨fun pins s σ H R I h => h.elim (h1.run pins s σ H R I) (h2.run pins s σ H R I)⟩
/-- what the arguments are must be known before the kind of walk is chosen: by the mirror -/
theorem di_enum {e : Expr} {m : M (List D)} {p tpos : Pos} {elts : List Expr} {kk : Nat} (hg : Gl X "enumerate") (hm : X.mg "enumerate" = none) (ha : PA X [e] (tDs Γ W m)) (hK : X.K = Γ.K := by rfl) (hs : starEach [e] X.env = [(false, eval e X.env)] := by rfl) :
    PI X (.Tuple elts kk tpos) (.Call (.Name "enumerate" p) [e] [] pos) (tI Γ W (iOpt enumD m)) := by
  refine PI.imp (PI.or (pi_enum hg hm (pa_sz ha) hs) (pi_enumT hg hm (pa_sz ha) hs)) fun σ H R ⟨G, ρ, s, h⟩ => ?_
  have h2 := post_bind.mp h
  rw [hK]
  cases e : m ρ with
  | bad => rw [e] at h2; exact h2.elim
  | err c ρ1 => rw [e] at h2; exact .inl ⟨G, ρ, s, by rw [e]; exact h2⟩
  | ok ds ρ1 =>
    rw [e] at h2
    obtain ⟨z, hz, q⟩ := opt_post h2
    unfold enumD at hz
    split at hz
    · cases hz
      refine .inl ⟨G, ρ, s, by
        rw [e]
        intro vs G1 H1 x1 r1 sz
        cases r1 with | cons ra rb =>
        cases rb
        cases ra with | lst g1 w1 =>
        exact ⟨_, _, rfl, SqL.of (x1.sr.sub _ _ g1), q _ G1 H1 x1 (itOk_enum g1 w1 (sz _ _ (.inl (SqL.of (x1.sr.sub _ _ g1)))))⟩⟩
    · cases hz
      refine .inr ⟨G, ρ, s, by
        rw [e]
        intro vs G1 H1 x1 r1 sz
        cases r1 with | cons ra rb =>
        cases rb
        cases ra with | tup g1 w1 =>
        exact ⟨_, _, rfl, x1.sr.sub.seqT g1, q _ G1 H1 x1 (itOk_enumT g1 w1 (sz _ _ (.inr (x1.sr.sub.seqT g1))))⟩⟩
    · cases hz
/-! ### several stores at once, the last one a fresh object -/
def sParO (i j : Nat) (ma : M D) (mo : M OC) : M Flw := ma.bind fun d => mo.bind fun c ρ => if i < ρ.length ∧ j < ρ.length then .ok .next ((ρ.set i (.fz d)).set j (.own c)) else .bad
def sParO3 (i j l : Nat) (ma mb : M D) (mo : M OC) : M Flw := ma.bind fun d => mb.bind fun e => mo.bind fun c ρ => if i < ρ.length ∧ j < ρ.length ∧ l < ρ.length then .ok .next (((ρ.set i (.fz d)).set j (.fz e)).set l (.own c)) else .bad
def sPar3 (i j l : Nat) (ma mb mc : M D) : M Flw := ma.bind fun d => mb.bind fun e => mc.bind fun c ρ => if i < ρ.length ∧ j < ρ.length ∧ l < ρ.length then .ok .next (((ρ.set i (.fz d)).set j (.fz e)).set l (.fz c)) else .bad
theorem setO_stp {K : PySem.W.Frag} {G H G1 H1 : Hp} {σ σ1 : St} {ρ ρ1 : Rho} {i : Nat} {a : Addr} {u : HO} {c : OC} (x : Stp K G H σ ρ G1 H1 σ1 ρ1) (hl : i < ρ1.length) (g : G1 a = none) (hu : H1 a = some u) (oc : OcOk K G1 c u) (n : ¬ Ow σ1 ρ1 a) (f : Ow σ ρ a ∨ H a = none) :
    Stp K G H σ ρ G1 H1 (σ1.set i (some (.ref a))) (ρ1.set i (.own c)) := by
  obtain ⟨sr, ow⟩ := x.sr.setO hl g hu oc n
  refine ⟨sr, x.fr, fun b z => ?_⟩
  rcases ow b z with z | z
  · subst z; exact f
  · exact x.ow b z
theorem pa2 {e1 e2 : Expr} {t1 t2 : TE} (h1 : PE X e1 t1) (h2 : PE X e2 t2) (hs : starEach [e1, e2] X.env = (false, eval e1 X.env) :: starEach [e2] X.env := by rfl) (hs2 : starEach [e2] X.env = (false, eval e2 X.env) :: starEach [] X.env := by rfl) :
    PA X [e1, e2] fun σ H Q => t1 σ H fun v H1 => t2 σ H1 fun u H2 => Q [v, u] H2 := pa_cons h1 (pa_cons h2 pa_nil hs2) hs
theorem pa3 {e1 e2 e3 : Expr} {t1 t2 t3 : TE} (h1 : PE X e1 t1) (h2 : PE X e2 t2) (h3 : PE X e3 t3) (hs : starEach [e1, e2, e3] X.env = (false, eval e1 X.env) :: starEach [e2, e3] X.env := by rfl) (hs2 : starEach [e2, e3] X.env = (false, eval e2 X.env) :: starEach [e3] X.env := by rfl) (hs3 : starEach [e3] X.env = (false, eval e3 X.env) :: starEach [] X.env := by rfl) :
    PA X [e1, e2, e3] fun σ H Q => t1 σ H fun v H1 => t2 σ H1 fun u H2 => t3 σ H2 fun w H3 => Q [v, u, w] H3 := pa_cons h1 (pa_cons h2 (pa_cons h3 pa_nil hs3) hs2) hs
theorem ds_parO {i j : Nat} {x y : Str} {a b : Expr} {ma : M D} {mo : M OC} {px py pt : Pos} {kt k2 pt2} (hc : X.calm = true) (hN : X.N.Nodup) (hi : X.N[i]? = some x) (hj : X.N[j]? = some y) (hij : i ≠ j)
    (hx : X.env.scope.names.lookup x = some .local) (hy : X.env.scope.names.lookup y = some .local) (ha : PE X a (tD Γ W ma)) (hb : PE X b (tO Γ W mo)) (hp : i ∉ P) (hp2 : j ∉ P)
    (hw : swappedStores [.Tuple [.Name x px, .Name y py] kt pt] (.Tuple [a, b] k2 pt2) X.env = pure (some [x, y]))
    (hs : swapsWithSole [.Tuple [.Name x px, .Name y py] kt pt] (.Tuple [a, b] k2 pt2) pos.line X.env = pure false := by rfl)
    (hs1 : starEach [a, b] X.env = (false, eval a X.env) :: starEach [b] X.env := by rfl) (hs2 : starEach [b] X.env = (false, eval b X.env) :: starEach [] X.env := by rfl) :
    PS X (.Assign [.Tuple [.Name x px, .Name y py] kt pt] (.Tuple [a, b] k2 pt2) pos) (tS Γ W P (sParO i j ma mo)) := by
  refine PS.imp (ps_par hc hN hi hj hij hx hy (pa2 ha hb hs1 hs2) hw hs) fun D σ H ⟨G, ρ, s, h⟩ => ?_
  refine ⟨G, ρ, s, (post_bind.mp h).imp (fun d ρ1 h1 v G1 H1 x1 r1 => ?_) fun c ρ' e => e.ew⟩
  refine ⟨G1, ρ1, x1.sr, (post_bind.mp h1).imp (fun c ρ2 h2 u G2 H2 x2 r2 => ?_) fun c ρ' e => EW.tr x1 e.ew⟩
  by_cases hl : i < ρ2.length ∧ j < ρ2.length
  · simp only [if_pos hl] at h2
    obtain ⟨a2, o2, rfl, g, hu, oc, n, f⟩ := r2
    have x12 := x1.tr x2
    have y1 := x2.sr.setF hl.1 (r1.mono x2.fr.ext)
    have n1 : ¬ Ow (σ.set i (some v)) (ρ2.set i (.fz d)) a2 := fun z => by
      rcases y1.ow a2 z with z | z
      · exact n z
      · rw [hu] at z; cases z
    have f1 : Ow σ ρ a2 ∨ H a2 = none := by
      rcases f with z | z
      · exact x1.ow a2 z
      · by_cases q : Ow σ ρ a2
        · exact .inl q
        · right
          cases e : H a2 with
          | none => rfl
          | some o => rw [x1.fr.keep a2 o e q] at z; cases z
    have y2 := setO_stp (x12.tr y1) (i := j) (by rw [List.length_set]; exact hl.2) g hu oc n1 f1
    exact ⟨_, _, rfl, h2 _ G2 H2 y2 fun k hk => (kept_set (P := P) hp2 k hk).trans (kept_set (P := P) hp k hk)⟩
  · simp only [if_neg hl] at h2
    exact h2.elim
theorem free_tr {K : PySem.W.Frag} {G H G1 H1 G2 H2 : Hp} {σ : St} {ρ ρ1 ρ2 : Rho} {v : V} {c : OC} (x : Stp K G H σ ρ G1 H1 σ ρ1) (f : Free K G1 H1 σ ρ1 G2 H2 σ ρ2 v c) : Free K G H σ ρ G2 H2 σ ρ2 v c := by
  obtain ⟨a2, o2, rfl, g, hu, oc, n, f⟩ := f
  refine ⟨a2, o2, rfl, g, hu, oc, n, ?_⟩
  rcases f with z | z
  · exact x.ow a2 z
  · by_cases q : Ow σ ρ a2
    · exact .inl q
    · right
      cases e : H a2 with
      | none => rfl
      | some o => rw [x.fr.keep a2 o e q] at z; cases z
theorem ow_set {K : PySem.W.Frag} {G H G1 H1 : Hp} {σ σ1 : St} {ρ ρ1 : Rho} {a : Addr} {o : HO} (y : Stp K G H σ ρ G1 H1 σ1 ρ1) (hu : H a = some o) (n : ¬ Ow σ ρ a) : ¬ Ow σ1 ρ1 a := fun z => by
  rcases y.ow a z with z | z
  · exact n z
  · rw [hu] at z; cases z
theorem ds_par3 {i j l : Nat} {x y z : Str} {a b c : Expr} {ma mb mc : M D} {px py pz pt : Pos} {kt k2 pt2} (hc : X.calm = true) (hN : X.N.Nodup) (hi : X.N[i]? = some x) (hj : X.N[j]? = some y) (hl : X.N[l]? = some z) (hij : i ≠ j) (hil : i ≠ l) (hjl : j ≠ l)
    (hx : X.env.scope.names.lookup x = some .local) (hy : X.env.scope.names.lookup y = some .local) (hz : X.env.scope.names.lookup z = some .local) (ha : PE X a (tD Γ W ma)) (hb : PE X b (tD Γ W mb)) (hcc : PE X c (tD Γ W mc)) (hp : i ∉ P) (hp2 : j ∉ P) (hp3 : l ∉ P)
    (hw : swappedStores [.Tuple [.Name x px, .Name y py, .Name z pz] kt pt] (.Tuple [a, b, c] k2 pt2) X.env = pure (some [x, y, z]))
    (hs : swapsWithSole [.Tuple [.Name x px, .Name y py, .Name z pz] kt pt] (.Tuple [a, b, c] k2 pt2) pos.line X.env = pure false := by rfl)
    (hs1 : starEach [a, b, c] X.env = (false, eval a X.env) :: starEach [b, c] X.env := by rfl) (hs2 : starEach [b, c] X.env = (false, eval b X.env) :: starEach [c] X.env := by rfl) (hs3 : starEach [c] X.env = (false, eval c X.env) :: starEach [] X.env := by rfl) :
    PS X (.Assign [.Tuple [.Name x px, .Name y py, .Name z pz] kt pt] (.Tuple [a, b, c] k2 pt2) pos) (tS Γ W P (sPar3 i j l ma mb mc)) := by
  refine PS.imp (ps_par3 hc hN hi hj hl hij hil hjl hx hy hz (pa3 ha hb hcc hs1 hs2 hs3) hw hs) fun D σ H ⟨G, ρ, s, h⟩ => ?_
  refine ⟨G, ρ, s, (post_bind.mp h).imp (fun d ρ1 h1 v G1 H1 x1 r1 => ?_) fun c ρ' e => e.ew⟩
  refine ⟨G1, ρ1, x1.sr, (post_bind.mp h1).imp (fun e ρ2 h2 u G2 H2 x2 r2 => ?_) fun c ρ' e => EW.tr x1 e.ew⟩
  refine ⟨G2, ρ2, x2.sr, (post_bind.mp h2).imp (fun c ρ3 h3 w G3 H3 x3 r3 => ?_) fun c ρ' e => EW.tr (x1.tr x2) e.ew⟩
  by_cases hl : i < ρ3.length ∧ j < ρ3.length ∧ l < ρ3.length
  · simp only [if_pos hl] at h3
    have y1 := x3.sr.setF hl.1 (r1.mono (x2.tr x3).fr.ext)
    have y2 := y1.sr.setF (i := j) (by rw [List.length_set]; exact hl.2.1) (r2.mono x3.fr.ext)
    have y3 := y2.sr.setF (i := l) (by rw [List.length_set, List.length_set]; exact hl.2.2) r3
    exact ⟨_, _, _, rfl, h3 _ G3 H3 ((((x1.tr x2).tr x3).tr y1).tr (y2.tr y3)) fun k hk => (kept_set (P := P) hp3 k hk).trans ((kept_set (P := P) hp2 k hk).trans (kept_set (P := P) hp k hk))⟩
  · simp only [if_neg hl] at h3
    exact h3.elim
theorem ds_parO3 {i j l : Nat} {x y z : Str} {a b c : Expr} {ma mb : M D} {mo : M OC} {px py pz pt : Pos} {kt k2 pt2} (hc : X.calm = true) (hN : X.N.Nodup) (hi : X.N[i]? = some x) (hj : X.N[j]? = some y) (hl : X.N[l]? = some z) (hij : i ≠ j) (hil : i ≠ l) (hjl : j ≠ l)
    (hx : X.env.scope.names.lookup x = some .local) (hy : X.env.scope.names.lookup y = some .local) (hz : X.env.scope.names.lookup z = some .local) (ha : PE X a (tD Γ W ma)) (hb : PE X b (tD Γ W mb)) (hcc : PE X c (tO Γ W mo)) (hp : i ∉ P) (hp2 : j ∉ P) (hp3 : l ∉ P)
    (hw : swappedStores [.Tuple [.Name x px, .Name y py, .Name z pz] kt pt] (.Tuple [a, b, c] k2 pt2) X.env = pure (some [x, y, z]))
    (hs : swapsWithSole [.Tuple [.Name x px, .Name y py, .Name z pz] kt pt] (.Tuple [a, b, c] k2 pt2) pos.line X.env = pure false := by rfl)
    (hs1 : starEach [a, b, c] X.env = (false, eval a X.env) :: starEach [b, c] X.env := by rfl) (hs2 : starEach [b, c] X.env = (false, eval b X.env) :: starEach [c] X.env := by rfl) (hs3 : starEach [c] X.env = (false, eval c X.env) :: starEach [] X.env := by rfl) :
    PS X (.Assign [.Tuple [.Name x px, .Name y py, .Name z pz] kt pt] (.Tuple [a, b, c] k2 pt2) pos) (tS Γ W P (sParO3 i j l ma mb mo)) := by
  refine PS.imp (ps_par3 hc hN hi hj hl hij hil hjl hx hy hz (pa3 ha hb hcc hs1 hs2 hs3) hw hs) fun D σ H ⟨G, ρ, s, h⟩ => ?_
  refine ⟨G, ρ, s, (post_bind.mp h).imp (fun d ρ1 h1 v G1 H1 x1 r1 => ?_) fun c ρ' e => e.ew⟩
  refine ⟨G1, ρ1, x1.sr, (post_bind.mp h1).imp (fun e ρ2 h2 u G2 H2 x2 r2 => ?_) fun c ρ' e => EW.tr x1 e.ew⟩
  refine ⟨G2, ρ2, x2.sr, (post_bind.mp h2).imp (fun c ρ3 h3 w G3 H3 x3 r3 => ?_) fun c ρ' e => EW.tr (x1.tr x2) e.ew⟩
  by_cases hl : i < ρ3.length ∧ j < ρ3.length ∧ l < ρ3.length
  · simp only [if_pos hl] at h3
    obtain ⟨a2, o2, rfl, g, hu, oc, n, f⟩ := free_tr (x1.tr x2) r3
    have y1 := x3.sr.setF hl.1 (r1.mono (x2.tr x3).fr.ext)
    have y2 := y1.sr.setF (i := j) (by rw [List.length_set]; exact hl.2.1) (r2.mono x3.fr.ext)
    have y3 := setO_stp (((x1.tr x2).tr x3).tr (y1.tr y2)) (i := l) (by rw [List.length_set, List.length_set]; exact hl.2.2) g hu oc (ow_set (y1.tr y2) hu n) f
    exact ⟨_, _, _, rfl, h3 _ G3 H3 y3 fun k hk => (kept_set (P := P) hp3 k hk).trans ((kept_set (P := P) hp2 k hk).trans (kept_set (P := P) hp k hk))⟩
  · simp only [if_neg hl] at h3
    exact h3.elim
/-! ### stars in displays -/
def eStar (ma : M D) (mb : M (List D)) : M (List D) := ma.bind fun d => match d with
  | .list xs => mb.bind fun ys => M.ret (xs ++ ys)
  | .tuple xs => mb.bind fun ys => M.ret (xs ++ ys)
  | _ => M.fail
theorem ds_star {e : Expr} {es : List Expr} {p : Pos} {ma : M D} {mb : M (List D)} (ha : PE X e (tD Γ W ma)) (hb : PA X es (tDs Γ W mb)) (hK : X.K = Γ.K := by rfl) (hs : starEach (.Starred e p :: es) X.env = (true, eval e X.env) :: starEach es X.env := by rfl) :
    PA X (.Starred e p :: es) (tDs Γ W (eStar ma mb)) := by
  refine PA.imp (StX.pa_star ha hb hs) fun σ H Q ⟨G, ρ, s, h⟩ => ⟨G, ρ, s, (post_bind.mp h).imp (fun d ρ1 h1 v G1 H1 x1 r1 => ?_) fun c ρ' e => e⟩
  rw [hK]
  split at h1
  · cases r1 with | lst g w =>
    exact ⟨_, _, rfl, .inr (SqL.of (x1.sr.sub _ _ g)), G1, ρ1, x1.sr, (post_bind.mp h1).imp (fun ys ρ2 h2 u G2 H2 x2 r2 => h2 _ G2 H2 (x1.tr x2) ((w.mono x2.fr.ext).append r2)) fun c ρ' e => e.tr x1⟩
  · cases r1 with | tup g w =>
    exact ⟨_, _, rfl, .inl (x1.sr.sub.seqT g), G1, ρ1, x1.sr, (post_bind.mp h1).imp (fun ys ρ2 h2 u G2 H2 x2 r2 => h2 _ G2 H2 (x1.tr x2) ((w.mono x2.fr.ext).append r2)) fun c ρ' e => e.tr x1⟩
  · exact h1.elim
end
end DL

/-! DLn: comprehensions with two walks. -/
namespace DL
open PySem PySem.Spec L2
theorem compL_grow {vs : List Nat} {g : Tg} {t : M Bool} {e : M D} : ∀ (ds acc : List D) (ρ : Rho) (out : List D) (ρ' : Rho), compL vs g t e ds acc ρ = .ok out ρ' → acc.length ≤ out.length
  | [], acc, ρ, out, ρ', h => by unfold compL at h; cases h; exact Nat.le_refl _
  | d :: ds, acc, ρ, out, ρ', h => by
    unfold compL at h
    split at h
    · cases h
    · split at h
      · split at h
        · have := compL_grow ds _ _ out ρ' h
          simp at this; omega
        · cases h
      · exact compL_grow ds _ _ out ρ' h
      · cases h
section
variable {Γ : Gm} {W : WX}
/-- one walk that appends to the list at p -/
theorem loop1 {g : Tg} {mt : M Bool} {me : M D} {vs : List Nat} (hgv : ∀ i ∈ g.ix, i ∈ vs) {σ σb : St} {Gb Hb G1 H1 : Hp} {ρb ρ1 ρF : Rho} {p : Addr} {accV0 : List V} {acc0 accF ds : List D} {J : It} {Fin : Hp → Prop}
    (x0 : Stp Γ.K Gb Hb σb ρb G1 H1 σ ρ1) (np : Hb p = none) (hp : H1 p = some (.lst accV0)) (gp : G1 p = none) (nop : ¬ Ow σ ρ1 p) (ra0 : RpAll Γ.K G1 accV0 acc0) (ok : ItOk Γ.K J ds G1)
    (hC : compL vs g mt me ds acc0 (wipeR ρ1 vs) = .ok accF ρF) (hz : accF.length ≤ sizeLine)
    (fin : ∀ G' H' accV, Sub G1 G' → Stp Γ.K Gb Hb σb ρb G' H' (wipe σ vs) ρF → H' p = some (.lst accV) → G' p = none → ¬ Ow (wipe σ vs) ρF p → RpAll Γ.K G' accV accF → Fin H') :
    ∃ W : Nat → Nat → Hp → Prop, (∃ m, W 0 m H1) ∧ ∀ i m H, W i m H → (J.stop i H ∧ Fin H) ∨ (J.go i H ∧ ∃ Nx : Hp → Prop, (∀ H', Nx H' → ∃ m', m' < m ∧ W (i + 1) m' H') ∧ ∀ x H', J.yld i H x H' → tG Γ g x (wipe σ vs) H' fun σ2 H2 => wipe σ2 vs = wipe σ vs ∧ tT Γ WF mt σ2 H2 fun b H3 =>
      if b = true then tD Γ WF me σ2 H3 fun y H4 => ∃ acc, H4 p = some (.lst acc) ∧ acc.length < sizeLine ∧ Nx (upd H4 p (.lst (acc ++ [y]))) else Nx H3) := by
  obtain ⟨s0, ow0⟩ := x0.sr.wiped (σ' := wipe σ vs) (vs := vs) (wipe_length σ vs) (fun i hi => wipe_at hi)
  have np0 : ¬ Ow (wipe σ vs) (wipeR ρ1 vs) p := fun z => nop (ow0 p z)
  refine ⟨fun i m H' => m = ds.length - i ∧ i ≤ ds.length ∧ ∃ G' ρ' accV acc, Sub G1 G' ∧ Stp Γ.K Gb Hb σb ρb G' H' (wipe σ vs) ρ' ∧ H' p = some (.lst accV) ∧ G' p = none ∧ ¬ Ow (wipe σ vs) ρ' p ∧ RpAll Γ.K G' accV acc ∧
    compL vs g mt me (ds.drop i) acc ρ' = .ok accF ρF,
    ⟨_, rfl, Nat.zero_le _, G1, wipeR ρ1 vs, accV0, acc0, Sub.rfl, ⟨s0, x0.fr, fun b z => x0.ow b (ow0 b z)⟩, hp, gp, np0, ra0, hC⟩, ?_⟩
  rintro i m H' ⟨rfl, hi, G', ρ', accV, acc, sg, x, hp, gp, nop, ra, ce⟩
  by_cases hlt : i < ds.length
  · right
    rw [List.drop_eq_getElem_cons hlt] at ce
    obtain ⟨go, yl⟩ := ok.at_ i G' H' ds[i] sg x.sr.sub (List.getElem?_eq_getElem hlt)
    refine ⟨go, fun H2 => ∃ G2 ρ2 accV acc, Sub G1 G2 ∧ Stp Γ.K Gb Hb σb ρb G2 H2 (wipe σ vs) ρ2 ∧ H2 p = some (.lst accV) ∧ G2 p = none ∧ ¬ Ow (wipe σ vs) ρ2 p ∧ RpAll Γ.K G2 accV acc ∧
      compL vs g mt me (ds.drop (i + 1)) acc ρ2 = .ok accF ρF,
      fun H2 ⟨G2, ρ2, aV, a, z1, z2, z3, z4, z5, z6, z8⟩ => ⟨ds.length - (i + 1), by omega, rfl, hlt, G2, ρ2, aV, a, z1, z2, z3, z4, z5, z6, z8⟩, fun v H2 yv => ?_⟩
    obtain ⟨G2, e2, r2⟩ := yl v H2 yv
    have y2 := x.sr.ext e2
    unfold compL at ce
    cases hg : g.set ds[i] ρ' with
    | none => simp only [hg] at ce; cases ce
    | some ρ3 =>
      simp only [hg] at ce
      have hl3 := lc_read.set_length hg
      refine ⟨G2, ρ', ds[i], ρ3, y2.sr, r2, hg, fun σ3 x3 k3 => ⟨?_, ?_⟩⟩
      · refine (wipe_eq (σ := wipe σ vs) (σ' := σ3) ?_ fun j hj => k3 j fun z => hj (hgv j z)).trans (wipe_eq (wipe_length σ vs) fun j hj => wipe_at hj)
        have l1 : σ3.length = ρ3.length := x3.sr.len
        have l2 : (wipe σ vs).length = ρ'.length := x.sr.len
        omega
      have kq : ∀ j, j ∉ vs → σ3[j]? = (wipe σ vs)[j]? := fun j hj => k3 j fun z => hj (hgv j z)
      have l3 : (wipe σ vs).length = σ3.length := by rw [x3.sr.len, hl3]; exact x.sr.len
      have stay : ∀ {G4 H4 : Hp} {ρ4 : Rho}, Stp Γ.K G2 H2 σ3 ρ3 G4 H4 σ3 ρ4 → H4 p = some (.lst accV) ∧ G4 p = none ∧ ¬ Ow σ3 ρ4 p := fun {G4 H4 ρ4} y => by
        have h2 : H2 p = some (.lst accV) := e2.h _ _ hp
        have g2 : G2 p = none := e2.n _ _ hp gp
        have n3 : ¬ Ow σ3 ρ3 p := ow_set x3 h2 nop
        exact ⟨y.fr.keep _ _ h2 n3, y.fr.nog _ _ h2 g2 n3, ow_set y h2 n3⟩
      have fin1 : ∀ {G4 H4 : Hp} {ρ4 : Rho} {aV : List V} {a : List D}, Stp Γ.K G2 H2 σ3 ρ3 G4 H4 σ3 ρ4 → RpAll Γ.K G4 aV a → compL vs g mt me (ds.drop (i + 1)) a (wipeR ρ4 vs) = .ok accF ρF →
          ∀ H5, H5 = upd H4 p (.lst aV) ∨ (H5 = H4 ∧ aV = accV) → ∃ G2 ρ2 accV acc, Sub G1 G2 ∧ Stp Γ.K Gb Hb σb ρb G2 H5 (wipe σ vs) ρ2 ∧ H5 p = some (.lst accV) ∧ G2 p = none ∧ ¬ Ow (wipe σ vs) ρ2 p ∧ RpAll Γ.K G2 accV acc ∧
            compL vs g mt me (ds.drop (i + 1)) acc ρ2 = .ok accF ρF := fun {G4 H4 ρ4 aV a} y ra' ce' H5 hH => by
        obtain ⟨p1, p2, p3⟩ := stay y
        have xx := ((x.tr y2).tr x3).tr y
        obtain ⟨s5, ow5⟩ := xx.sr.wiped (σ' := wipe σ vs) (vs := vs) l3 (fun j hj => (kq j hj).symm)
        have st5 : Stp Γ.K Gb Hb σb ρb G4 H4 (wipe σ vs) (wipeR ρ4 vs) := ⟨s5, xx.fr, fun b z => xx.ow b (ow5 b z)⟩
        have n5 : ¬ Ow (wipe σ vs) (wipeR ρ4 vs) p := fun z => p3 (ow5 p z)
        rcases hH with rfl | ⟨rfl, rfl⟩
        · exact ⟨G4, _, aV, a, (sg.tr e2.g).tr y.fr.ext, st5.updD np p2 n5, upd_same, p2, n5, ra', ce'⟩
        · exact ⟨G4, _, _, a, (sg.tr e2.g).tr y.fr.ext, st5, p1, p2, n5, ra', ce'⟩
      refine ⟨G2, ρ3, x3.sr, ?_⟩
      cases ht : mt ρ3 with
      | bad => simp only [ht] at ce; cases ce
      | err c ρ4 => simp only [ht] at ce; cases ce
      | ok b ρ4 =>
        intro G4 H4 y4
        cases b with
        | false =>
          simp only [ht] at ce
          rw [if_neg Bool.false_ne_true]
          exact fin1 y4 (ra.mono (e2.g.tr y4.fr.ext)) ce H4 (.inr ⟨rfl, rfl⟩)
        | true =>
          simp only [ht] at ce
          rw [if_pos rfl]
          refine ⟨G4, ρ4, y4.sr, ?_⟩
          cases he : me ρ4 with
          | bad => simp only [he] at ce; cases ce
          | err c ρ5 => simp only [he] at ce; cases ce
          | ok y ρ5 =>
            simp only [he] at ce
            intro u G5 H5 y5 r5
            obtain ⟨p1, p2, p3⟩ := stay (y4.tr y5)
            refine ⟨accV, p1, ?_, fin1 (y4.tr y5) ((ra.mono ((e2.g.tr y4.fr.ext).tr y5.fr.ext)).append (.cons r5 .nil)) ce _ (.inl rfl)⟩
            have l1 := ra.length
            have l2 := compL_grow _ _ _ _ _ ce
            simp at l2
            omega
  · left
    have e : i = ds.length := by omega
    subst e
    rw [List.drop_length] at ce
    unfold compL at ce
    cases ce
    exact ⟨ok.fin G' H' sg x.sr.sub, fin G' H' accV sg x hp gp nop ra⟩
def compL2 (vs : List Nat) (g : Tg) (t : M Bool) (mi1 : M (List D)) (vs1 : List Nat) (g1 : Tg) (t1 : M Bool) (e : M D) : List D → List D → Rho → Out (List D)
  | [], acc, ρ => .ok acc ρ
  | d :: ds, acc, ρ => match g.set d ρ with
    | none => .bad
    | some ρ1 => match t ρ1 with
      | .ok true ρ2 => match mi1 ρ2 with
        | .ok es ρ3 => match compL vs1 g1 t1 e es acc (wipeR ρ3 vs1) with
          | .ok acc' ρ4 => if acc'.length ≤ 16777216 then compL2 vs g t mi1 vs1 g1 t1 e ds acc' (wipeR ρ4 vs) else .bad
          | _ => .bad
        | _ => .bad
      | .ok false ρ2 => compL2 vs g t mi1 vs1 g1 t1 e ds acc (wipeR ρ2 vs)
      | _ => .bad
def oComp2 (vs : List Nat) (mi : M (List D)) (g : Tg) (t : M Bool) (mi1 : M (List D)) (vs1 : List Nat) (g1 : Tg) (t1 : M Bool) (e : M D) : M OC := mi.bind fun ds ρ =>
  if vs.any (fun v => isOwn ρ[v]?) then .bad else
  match compL2 vs g t mi1 vs1 g1 t1 e ds [] (wipeR ρ vs) with
  | .ok acc ρ' => .ok (.lst acc) (restR ρ ρ' vs)
  | .err _ _ => .bad
  | .bad => .bad
theorem rest_stp {K : PySem.W.Frag} {G1 H1 G' H' : Hp} {σ : St} {ρ1 ρ' : Rho} {vs : List Nat} (s1 : SR K G1 H1 σ ρ1) (nov : ¬ (vs.any fun v => isOwn ρ1[v]?) = true) (sg : Sub G1 G') (x : Stp K G1 H1 (wipe σ vs) (wipeR ρ1 vs) G' H' (wipe σ vs) ρ') (ow0 : ∀ a, Ow (wipe σ vs) (wipeR ρ1 vs) a → Ow σ ρ1 a) :
    Stp K G1 H1 σ ρ1 G' H' σ (restR ρ1 ρ' vs) ∧ ∀ a, Ow σ (restR ρ1 ρ' vs) a → Ow (wipe σ vs) ρ' a := by
  have back : ∀ j a, OwnAt σ (restR ρ1 ρ' vs) j a → j ∉ vs ∧ OwnAt (wipe σ vs) ρ' j a := fun j a ⟨c, e1, e2⟩ => by
    rcases restR_at e1 with ⟨z1, z2⟩ | ⟨z1, z2⟩
    · exfalso
      cases q : ρ1[j]? with
      | none => rw [q] at z2; cases z2
      | some t =>
        rw [q] at z2
        have z3 : Slot.own c = t := z2
        subst z3
        exact nov (List.any_eq_true.mpr ⟨j, z1, by rw [q]; rfl⟩)
    · exact ⟨z1, c, z2, by rw [wipe_at z1]; exact e2⟩
  refine ⟨⟨⟨x.sr.sub, ?_, fun j t e => ?_, fun j k a y z => x.sr.sep j k a (back j a y).2 (back k a z).2⟩, ⟨x.fr.ext, fun a o e n => x.fr.keep a o e fun z => n (ow0 a z), fun a o e g n => x.fr.nog a o e g fun z => n (ow0 a z)⟩, fun a ⟨j, y⟩ => ?_⟩, fun a ⟨j, y⟩ => ⟨j, (back j a y).2⟩⟩
  · rw [restR_length, ← x.sr.len, wipe_length]
  · rcases restR_at e with ⟨z1, z2⟩ | ⟨z1, z2⟩
    · cases q : ρ1[j]? with
      | none => rw [q] at z2; subst z2; trivial
      | some t' =>
        rw [q] at z2
        have z3 : t = t' := z2
        subst z3
        have ok1 := s1.ok j t q
        cases t with
        | un => trivial
        | ex a => exact ok1
        | fz d => obtain ⟨v, w1, w2⟩ := ok1; exact ⟨v, w1, w2.mono sg⟩
        | own c => exact (nov (List.any_eq_true.mpr ⟨j, z1, by rw [q]; rfl⟩)).elim
    · have := x.sr.ok j t z2
      rw [wipe_at z1] at this
      exact this
  · rcases x.ow a ⟨j, (back j a y).2⟩ with z | z
    · exact .inl (ow0 a z)
    · exact .inr z
theorem lc2_read {mi mi1 : M (List D)} {g g1 : Tg} {mt mt1 : M Bool} {me : M D} {vs vs1 : List Nat} (hgv : ∀ i ∈ g.ix, i ∈ vs) (hgv1 : ∀ i ∈ g1.ix, i ∈ vs1) (hv : ∀ i ∈ vs1, i ∈ vs) {σ : St} {H : Hp} {Q : VK} (h : tO Γ W (oComp2 vs mi g mt mi1 vs1 g1 mt1 me) σ H Q) :
    tLc2 (tI Γ W mi) (tG Γ g) (tT Γ WF mt) (tI Γ WF mi1) (tG Γ g1) (tT Γ WF mt1) (tD Γ WF me) vs vs1 σ H Q := by
  obtain ⟨G, ρ, s, h⟩ := h
  refine ⟨G, ρ, s, (post_bind.mp h).imp (fun ds ρ1 h1 J G1 H1 x1 ok p np => ?_) fun c ρ' e => e⟩
  split at h1
  · exact h1.elim
  rename_i nov
  have gnp : G1 p = none := x1.sr.sub.none np
  obtain ⟨s0, ow0⟩ := x1.sr.wiped (σ' := wipe σ vs) (vs := vs) (wipe_length σ vs) (fun i hi => wipe_at hi)
  have np0 : ¬ Ow (wipe σ vs) (wipeR ρ1 vs) p := fun z => by
    obtain ⟨i, c, e1, e2⟩ := ow0 p z
    obtain ⟨a, u, f1, f2, f3, f4⟩ := x1.sr.own e1
    rw [e2] at f1; cases f1
    rw [np] at f3; cases f3
  generalize hC : compL2 vs g mt mi1 vs1 g1 mt1 me ds [] (wipeR ρ1 vs) = C0 at h1
  refine ⟨fun i m H' => m = ds.length - i ∧ i ≤ ds.length ∧ ∃ G' ρ' accV acc, Sub G1 G' ∧ Stp Γ.K G1 H1 (wipe σ vs) (wipeR ρ1 vs) G' H' (wipe σ vs) ρ' ∧ H' p = some (.lst accV) ∧ G' p = none ∧ ¬ Ow (wipe σ vs) ρ' p ∧ RpAll Γ.K G' accV acc ∧
    C0 = compL2 vs g mt mi1 vs1 g1 mt1 me (ds.drop i) acc ρ',
    ⟨_, rfl, Nat.zero_le _, G1, wipeR ρ1 vs, [], [], Sub.rfl, (Stp.rfl s0).updD np gnp np0, upd_same, gnp, np0, .nil, hC.symm⟩, ?_⟩
  rintro i m H' ⟨rfl, hi, G', ρ', accV, acc, sg, x, hp, gp, nop, ra, ce⟩
  by_cases hlt : i < ds.length
  · right
    rw [List.drop_eq_getElem_cons hlt] at ce
    obtain ⟨go, yl⟩ := ok.at_ i G' H' ds[i] sg x.sr.sub (List.getElem?_eq_getElem hlt)
    refine ⟨go, fun H2 => ∃ G2 ρ2 accV acc, Sub G1 G2 ∧ Stp Γ.K G1 H1 (wipe σ vs) (wipeR ρ1 vs) G2 H2 (wipe σ vs) ρ2 ∧ H2 p = some (.lst accV) ∧ G2 p = none ∧ ¬ Ow (wipe σ vs) ρ2 p ∧ RpAll Γ.K G2 accV acc ∧
      C0 = compL2 vs g mt mi1 vs1 g1 mt1 me (ds.drop (i + 1)) acc ρ2,
      fun H2 ⟨G2, ρ2, aV, a, z1, z2, z3, z4, z5, z6, z8⟩ => ⟨ds.length - (i + 1), by omega, rfl, hlt, G2, ρ2, aV, a, z1, z2, z3, z4, z5, z6, z8⟩, fun v H2 yv => ?_⟩
    obtain ⟨G2, e2, r2⟩ := yl v H2 yv
    have y2 := x.sr.ext e2
    unfold compL2 at ce
    cases hg : g.set ds[i] ρ' with
    | none => simp only [hg] at ce; rw [ce] at h1; exact h1.elim
    | some ρ3 =>
      simp only [hg] at ce
      have hl3 := lc_read.set_length hg
      refine ⟨G2, ρ', ds[i], ρ3, y2.sr, r2, hg, fun σ3 x3 k3 => ⟨?_, ?_⟩⟩
      · refine (wipe_eq (σ := wipe σ vs) (σ' := σ3) ?_ fun j hj => k3 j fun z => hj (hgv j z)).trans (wipe_eq (wipe_length σ vs) fun j hj => wipe_at hj)
        have l1 : σ3.length = ρ3.length := x3.sr.len
        have l2 : (wipe σ vs).length = ρ'.length := x.sr.len
        omega
      have kq : ∀ j, j ∉ vs → σ3[j]? = (wipe σ vs)[j]? := fun j hj => k3 j fun z => hj (hgv j z)
      have l3 : (wipe σ vs).length = σ3.length := by rw [x3.sr.len, hl3]; exact x.sr.len
      have stay : ∀ {G4 H4 : Hp} {ρ4 : Rho}, Stp Γ.K G2 H2 σ3 ρ3 G4 H4 σ3 ρ4 → H4 p = some (.lst accV) ∧ G4 p = none ∧ ¬ Ow σ3 ρ4 p := fun {G4 H4 ρ4} y => by
        have h2 : H2 p = some (.lst accV) := e2.h _ _ hp
        have g2 : G2 p = none := e2.n _ _ hp gp
        have n3 : ¬ Ow σ3 ρ3 p := ow_set x3 h2 nop
        exact ⟨y.fr.keep _ _ h2 n3, y.fr.nog _ _ h2 g2 n3, ow_set y h2 n3⟩
      -- a turn's end
      have fin1 : ∀ {G4 H4 : Hp} {σ4 : St} {ρ4 : Rho} {aV : List V} {a : List D}, Stp Γ.K G1 H1 (wipe σ vs) (wipeR ρ1 vs) G4 H4 σ4 ρ4 → (wipe σ vs).length = σ4.length → (∀ j, j ∉ vs → σ4[j]? = (wipe σ vs)[j]?) → H4 p = some (.lst aV) → G4 p = none → ¬ Ow σ4 ρ4 p → RpAll Γ.K G4 aV a →
          C0 = compL2 vs g mt mi1 vs1 g1 mt1 me (ds.drop (i + 1)) a (wipeR ρ4 vs) →
          ∃ G2 ρ2 accV acc, Sub G1 G2 ∧ Stp Γ.K G1 H1 (wipe σ vs) (wipeR ρ1 vs) G2 H4 (wipe σ vs) ρ2 ∧ H4 p = some (.lst accV) ∧ G2 p = none ∧ ¬ Ow (wipe σ vs) ρ2 p ∧ RpAll Γ.K G2 accV acc ∧
            C0 = compL2 vs g mt mi1 vs1 g1 mt1 me (ds.drop (i + 1)) acc ρ2 := fun {G4 H4 σ4 ρ4 aV a} xx l4 k4 p1 p2 p3 ra' ce' => by
        obtain ⟨s5, ow5⟩ := xx.sr.wiped (σ' := wipe σ vs) (vs := vs) l4 (fun j hj => (k4 j hj).symm)
        have st5 : Stp Γ.K G1 H1 (wipe σ vs) (wipeR ρ1 vs) G4 H4 (wipe σ vs) (wipeR ρ4 vs) := ⟨s5, xx.fr, fun b z => xx.ow b (ow5 b z)⟩
        exact ⟨G4, _, aV, a, xx.fr.ext, st5, p1, p2, fun z => p3 (ow5 p z), ra', ce'⟩
      refine ⟨G2, ρ3, x3.sr, ?_⟩
      cases ht : mt ρ3 with
      | bad => simp only [ht] at ce; rw [ce] at h1; exact h1.elim
      | err c ρ4 => simp only [ht] at ce; rw [ce] at h1; exact h1.elim
      | ok b ρ4 =>
        intro G4 H4 y4
        cases b with
        | false =>
          simp only [ht] at ce
          rw [if_neg Bool.false_ne_true]
          obtain ⟨p1, p2, p3⟩ := stay y4
          exact fin1 (((x.tr y2).tr x3).tr y4) l3 kq p1 p2 p3 (ra.mono (e2.g.tr y4.fr.ext)) ce
        | true =>
          simp only [ht] at ce
          rw [if_pos rfl]
          refine ⟨G4, ρ4, y4.sr, ?_⟩
          cases hm : mi1 ρ4 with
          | bad => simp only [hm] at ce; rw [ce] at h1; exact h1.elim
          | err c ρ5 => simp only [hm] at ce; rw [ce] at h1; exact h1.elim
          | ok es ρ5 =>
            simp only [hm] at ce
            intro J1 G5 H5 y5 ok1
            obtain ⟨p1, p2, p3⟩ := stay (y4.tr y5)
            cases hI : compL vs1 g1 mt1 me es acc (wipeR ρ5 vs1) with
            | bad => simp only [hI] at ce; rw [ce] at h1; exact h1.elim
            | err c ρ6 => simp only [hI] at ce; rw [ce] at h1; exact h1.elim
            | ok accF ρF =>
              simp only [hI] at ce
              by_cases hsz : accF.length ≤ 16777216
              · rw [if_pos hsz] at ce
                exact loop1 hgv1 ((((x.tr y2).tr x3).tr y4).tr y5) np p1 p2 p3 (ra.mono ((e2.g.tr y4.fr.ext).tr y5.fr.ext)) ok1 hI (size_line hsz) fun G6 H6 aV sg6 x6 q1 q2 q3 ra6 =>
                  fin1 x6 (l3.trans (wipe_length σ3 vs1).symm) (fun j hj => (wipe_at fun z => hj (hv j z)).trans (kq j hj)) q1 q2 q3 ra6 ce
              · rw [if_neg hsz] at ce
                rw [ce] at h1; exact h1.elim
  · left
    have e : i = ds.length := by omega
    subst e
    refine ⟨ok.fin G' H' sg x.sr.sub, ?_⟩
    rw [List.drop_length] at ce
    unfold compL2 at ce
    rw [ce] at h1
    obtain ⟨st, bk⟩ := rest_stp x1.sr nov sg x ow0
    exact h1 _ G' H' (x1.tr st) ⟨p, _, rfl, gp, hp, .lst ra, fun z => nop (bk p z), x1.was (.inr np)⟩
end
theorem all_in {l m : List Nat} (h : (l.all fun i => m.contains i) = true) : ∀ i ∈ l, i ∈ m := fun i hi => by
  have := List.all_eq_true.mp h i hi
  simpa using this
section
variable {X : Cx} {Γ : Gm} {W : WX} {P : List Nat}
theorem do_comp2 {elt tg iter tg1 iter1 : Expr} {ifs ifs1 : List Expr} {scope : Scope} {own : List (Str × Nat)} {vs1 : List Nat} {mi mi1 : M (List D)} {g g1 : Tg} {mt mt1 : M Bool} {me : M D} {pos : Pos} (hc : X.calm = true) (hN : X.N.Nodup) (hi : PI X tg iter (tI Γ W mi)) (ok : blkC X.N X.env.scope scope own = true) (hv : (vs1.all fun i => (own.map (·.2)).contains i) = true)
    (hg : ∀ (s : Shared) (H : Hp) (C : Addr) (cl : List (Str × Addr)) (fp : List Addr), PG (X.blk s H scope (compEnvC scope cl C X.env) fp) tg (tG Γ g)) (ht : ∀ (s : Shared) (H : Hp) (C : Addr) (cl : List (Str × Addr)) (fp : List Addr), PTs (X.blk s H scope (compEnvC scope cl C X.env) fp) ifs (tT Γ WF mt))
    (hi1 : ∀ (s : Shared) (H : Hp) (C : Addr) (cl : List (Str × Addr)) (fp : List Addr), PI (X.blk s H scope (compEnvC scope cl C X.env) fp) tg1 iter1 (tI Γ WF mi1))
    (hg1 : ∀ (s : Shared) (H : Hp) (C : Addr) (cl : List (Str × Addr)) (fp : List Addr), PG (X.blk s H scope (compEnvC scope cl C X.env) fp) tg1 (tG Γ g1)) (ht1 : ∀ (s : Shared) (H : Hp) (C : Addr) (cl : List (Str × Addr)) (fp : List Addr), PTs (X.blk s H scope (compEnvC scope cl C X.env) fp) ifs1 (tT Γ WF mt1))
    (he : ∀ (s : Shared) (H : Hp) (C : Addr) (cl : List (Str × Addr)) (fp : List Addr), PE (X.blk s H scope (compEnvC scope cl C X.env) fp) elt (tD Γ WF me)) (hgv : (g.ix.all fun i => (own.map (·.2)).contains i) = true) (hgv1 : (g1.ix.all fun i => vs1.contains i) = true) (hs : ∀ x, foldedSetIterable iter X.env x = pure x := by intro _; rfl) (hs1 : ∀ env x, foldedSetIterable iter1 env x = pure x := by intro _ _; rfl) :
    PE X (.ListComp elt [⟨tg, iter, ifs, 0⟩, ⟨tg1, iter1, ifs1, 0⟩] scope pos) (tO Γ W (oComp2 (own.map (·.2)) mi g mt mi1 vs1 g1 mt1 me)) :=
  PE.imp (pe_lc2 hc hN hi (blkOk_by ok) (all_in hv) hg ht hi1 hg1 ht1 he hs hs1) fun σ H Q h => lc2_read (all_in hgv) (all_in hgv1) (all_in hv) h
theorem ds_setLc2O {elt tg iter tg1 iter1 : Expr} {ifs ifs1 : List Expr} {scope : Scope} {own : List (Str × Nat)} {vs1 : List Nat} {mi mi1 : M (List D)} {g g1 : Tg} {mt mt1 : M Bool} {me : M D} {i : Nat} {y : Str} {py pos spos : Pos} (hc : X.calm = true) (hN : X.N.Nodup) (hy : X.N[i]? = some y) (hyl : X.env.scope.names.lookup y = some .local)
    (hsw : swapsWith (.ListComp elt [⟨tg, iter, ifs, 0⟩, ⟨tg1, iter1, ifs1, 0⟩] scope pos) (some (.Name y py)) spos.line X.env = pure true) (hi : PI X tg iter (tI Γ W mi)) (ok : blkC X.N X.env.scope scope own = true) (hv : (vs1.all fun i => (own.map (·.2)).contains i) = true)
    (hg : ∀ (s : Shared) (H : Hp) (C : Addr) (cl : List (Str × Addr)) (fp : List Addr), PG (X.blk s H scope (compEnvC scope cl C X.env) fp) tg (tG Γ g)) (ht : ∀ (s : Shared) (H : Hp) (C : Addr) (cl : List (Str × Addr)) (fp : List Addr), PTs (X.blk s H scope (compEnvC scope cl C X.env) fp) ifs (tT Γ WF mt))
    (hi1 : ∀ (s : Shared) (H : Hp) (C : Addr) (cl : List (Str × Addr)) (fp : List Addr), PI (X.blk s H scope (compEnvC scope cl C X.env) fp) tg1 iter1 (tI Γ WF mi1))
    (hg1 : ∀ (s : Shared) (H : Hp) (C : Addr) (cl : List (Str × Addr)) (fp : List Addr), PG (X.blk s H scope (compEnvC scope cl C X.env) fp) tg1 (tG Γ g1)) (ht1 : ∀ (s : Shared) (H : Hp) (C : Addr) (cl : List (Str × Addr)) (fp : List Addr), PTs (X.blk s H scope (compEnvC scope cl C X.env) fp) ifs1 (tT Γ WF mt1))
    (he : ∀ (s : Shared) (H : Hp) (C : Addr) (cl : List (Str × Addr)) (fp : List Addr), PE (X.blk s H scope (compEnvC scope cl C X.env) fp) elt (tD Γ WF me)) (hgv : (g.ix.all fun i => (own.map (·.2)).contains i) = true) (hgv1 : (g1.ix.all fun i => vs1.contains i) = true) (hp : i ∉ P) (hs : ∀ x, foldedSetIterable iter X.env x = pure x := by intro _; rfl) (hs1 : ∀ env x, foldedSetIterable iter1 env x = pure x := by intro _ _; rfl) :
    PS X (.Assign [.Name y py] (.ListComp elt [⟨tg, iter, ifs, 0⟩, ⟨tg1, iter1, ifs1, 0⟩] scope pos) spos) (tS Γ W P (sSetO i (oComp2 (own.map (·.2)) mi g mt mi1 vs1 g1 mt1 me))) := by
  refine PS.imp (ps_setLc2 hc hN hy hyl hsw hi (blkOk_by ok) (all_in hv) hg ht hi1 hg1 ht1 he hs hs1) fun D σ H h => ?_
  refine lc2_read (all_in hgv) (all_in hgv1) (all_in hv) ?_
  obtain ⟨G, ρ, s, h⟩ := h
  refine ⟨G, ρ, s, (post_bind.mp h).imp (fun c ρ1 h1 v G1 H1 x1 r1 => ?_) fun c ρ' e => e.ew⟩
  obtain ⟨hl, q⟩ := set_post (σ := σ) (ρ' := ρ) h1
  obtain ⟨a, u, rfl, g, hu, oc, n, f⟩ := r1
  exact q _ G1 H1 (setO_stp x1 hl g hu oc n f) (kept_set hp)
theorem ds_setLc2 {elt tg iter tg1 iter1 : Expr} {ifs ifs1 : List Expr} {scope : Scope} {own : List (Str × Nat)} {vs1 : List Nat} {mi mi1 : M (List D)} {g g1 : Tg} {mt mt1 : M Bool} {me : M D} {i : Nat} {y : Str} {py pos spos : Pos} (hc : X.calm = true) (hN : X.N.Nodup) (hy : X.N[i]? = some y) (hyl : X.env.scope.names.lookup y = some .local)
    (hsw : swapsWith (.ListComp elt [⟨tg, iter, ifs, 0⟩, ⟨tg1, iter1, ifs1, 0⟩] scope pos) (some (.Name y py)) spos.line X.env = pure true) (hi : PI X tg iter (tI Γ W mi)) (ok : blkC X.N X.env.scope scope own = true) (hv : (vs1.all fun i => (own.map (·.2)).contains i) = true)
    (hg : ∀ (s : Shared) (H : Hp) (C : Addr) (cl : List (Str × Addr)) (fp : List Addr), PG (X.blk s H scope (compEnvC scope cl C X.env) fp) tg (tG Γ g)) (ht : ∀ (s : Shared) (H : Hp) (C : Addr) (cl : List (Str × Addr)) (fp : List Addr), PTs (X.blk s H scope (compEnvC scope cl C X.env) fp) ifs (tT Γ WF mt))
    (hi1 : ∀ (s : Shared) (H : Hp) (C : Addr) (cl : List (Str × Addr)) (fp : List Addr), PI (X.blk s H scope (compEnvC scope cl C X.env) fp) tg1 iter1 (tI Γ WF mi1))
    (hg1 : ∀ (s : Shared) (H : Hp) (C : Addr) (cl : List (Str × Addr)) (fp : List Addr), PG (X.blk s H scope (compEnvC scope cl C X.env) fp) tg1 (tG Γ g1)) (ht1 : ∀ (s : Shared) (H : Hp) (C : Addr) (cl : List (Str × Addr)) (fp : List Addr), PTs (X.blk s H scope (compEnvC scope cl C X.env) fp) ifs1 (tT Γ WF mt1))
    (he : ∀ (s : Shared) (H : Hp) (C : Addr) (cl : List (Str × Addr)) (fp : List Addr), PE (X.blk s H scope (compEnvC scope cl C X.env) fp) elt (tD Γ WF me)) (hgv : (g.ix.all fun i => (own.map (·.2)).contains i) = true) (hgv1 : (g1.ix.all fun i => vs1.contains i) = true) (hp : i ∉ P) (hs : ∀ x, foldedSetIterable iter X.env x = pure x := by intro _; rfl) (hs1 : ∀ env x, foldedSetIterable iter1 env x = pure x := by intro _ _; rfl) :
    PS X (.Assign [.Name y py] (.ListComp elt [⟨tg, iter, ifs, 0⟩, ⟨tg1, iter1, ifs1, 0⟩] scope pos) spos) (tS Γ W P (sSet i (ofO (oComp2 (own.map (·.2)) mi g mt mi1 vs1 g1 mt1 me)))) := by
  refine PS.imp (ps_setLc2 hc hN hy hyl hsw hi (blkOk_by ok) (all_in hv) hg ht hi1 hg1 ht1 he hs hs1) fun D σ H h => ?_
  refine lc2_read (all_in hgv) (all_in hgv1) (all_in hv) ?_
  obtain ⟨G, ρ, s, h⟩ := h
  refine ⟨G, ρ, s, (post_bind.mp (post_bind.mp h)).imp (fun c ρ1 h1 v G1 H1 x1 r1 => ?_) fun c ρ' e => e.ew⟩
  obtain ⟨p, u, rfl, g, hp', oc, n, f⟩ := r1
  have st := x1.own_freeze g hp' n f
  have key : ∀ (d : PyData), Rp Γ.K (upd G1 p u) (.ref p) d → (if i < ρ1.length then Out.ok Flw.next (ρ1.set i (.fz d)) else .bad : Out Flw).Post (fun f ρ' => ∀ σ' G' H', Stp Γ.K G H σ ρ G' H' σ' ρ' → Kept P σ σ' → FlwOk Γ.K G H σ ρ G' H' σ' ρ' D f) (EWs Γ W P G H σ ρ) → D.nx (σ.set i (some (.ref p))) H1 := fun d r q => by
    obtain ⟨hl, q⟩ := set_post (σ := σ) (ρ' := ρ) q
    exact q _ _ H1 (st.tr (st.sr.setF hl r)) (kept_set hp)
  cases oc with
  | lst q => exact key (.list _) (.lst upd_same (q.mono (Sub.upd g))) h1
  | dK q =>
    cases q with
    | nil => exact key (.dict []) (.emp upd_same) h1
    | cons _ _ => exact h1.elim
  | dT q => exact h1.elim
  | dN q => exact h1.elim
end
end DL

/-! DLo: ranges as lists and tuples, turned round. -/
namespace DL
open PySem PySem.Spec L2
theorem rgV_rp {K : PySem.W.Frag} {G : Hp} {lo hi : Int} {ds : List D} (h : rngD lo hi = some ds) : RgOk lo hi ∧ RpAll K G (rgV lo hi) ds := by
  unfold rngD at h
  split at h
  · rename_i c
    cases h
    refine ⟨⟨c.1, c.2.1, c.2.2.1, c.2.2.2.1, c.2.2.2.2⟩, ?_⟩
    unfold rgV
    have : ((List.range (hi - lo).toNat).map fun (i : Nat) => PyData.int (lo + (i : Int))) = ((List.range (hi - lo).toNat).map fun (i : Nat) => lo + (i : Int)).map .int := by rw [List.map_map]; rfl
    rw [this, show ((List.range (hi - lo).toNat).map fun i => V.int (lo + (i : Nat))) = ((List.range (hi - lo).toNat).map fun (i : Nat) => lo + (i : Int)).map V.int by rw [List.map_map]; rfl]
    exact RpAll.of_ints _
  · cases h
def oRgL (m : M (List D)) : M OC := m.bind fun ds => M.ret (.lst ds)
def eRgT (m : M (List D)) : M D := m.bind fun ds => M.ret (.tuple ds)
section
variable {X : Cx} {Γ : Gm} {W : WX} {pos p pos2 p2 : Pos}
def rg1M (ma : M D) : M (List D) := ma.bind fun x => M.opt (rng1 [x])
def rg2M (ma mb : M D) : M (List D) := ma.bind fun x => mb.bind fun y => M.opt (rng2 [x, y])
theorem rng1_i {x : D} {z : List D} (h : rng1 [x] = some z) : ∃ n, x = .int n ∧ rngD 0 n = some z := by
  unfold rng1 at h
  split at h
  · rename_i e; cases e; exact ⟨_, rfl, h⟩
  · cases h
theorem rng2_i {x y : D} {z : List D} (h : rng2 [x, y] = some z) : ∃ n m, x = .int n ∧ y = .int m ∧ rngD n m = some z := by
  unfold rng2 at h
  split at h
  · rename_i e; cases e; exact ⟨_, _, rfl, rfl, h⟩
  · cases h
/-- reading: the bounds and what they give -/
def tRgD (Γ : Gm) (W : WX) (m : M (List D)) : St → Hp → (Int → Int → Hp → Prop) → Prop := fun σ H Q => ∃ G ρ, SR Γ.K G H σ ρ ∧
  (m ρ).Post (fun ds ρ' => ∀ lo hi G' H', Stp Γ.K G H σ ρ G' H' σ ρ' → rngD lo hi = some ds → Q lo hi H') (EW Γ W G H σ ρ)
theorem PRg.imp {e : Expr} {t u : St → Hp → (Int → Int → Hp → Prop) → Prop} (h : PRg X e t) (k : ∀ σ H Q, u σ H Q → t σ H Q) : PRg X e u := fun pins s σ H Q I q => h pins s σ H Q I (k _ _ _ q)
theorem rg_1 {a : Expr} {ma : M D} (hg : Gl X "range") (hm : X.mg "range" = none) (ha : PE X a (tD Γ W ma)) (na : starEach [a] X.env = (false, eval a X.env) :: starEach [] X.env := by rfl) : PRg X (.Call (.Name "range" p) [a] [] pos) (tRgD Γ W (rg1M ma)) := by
  refine PRg.imp (prg_1 hg hm ha na) fun σ H Q ⟨G, ρ, s, h⟩ => ⟨G, ρ, s, (post_bind.mp h).imp (fun d ρ1 h1 v G1 H1 x1 r1 => ?_) fun c ρ' e => e⟩
  obtain ⟨z, hz, q⟩ := opt_post h1
  obtain ⟨n, rfl, hn⟩ := rng1_i hz
  cases r1
  exact ⟨n, rfl, q 0 n G1 H1 x1 hn⟩
theorem rg_2 {a b : Expr} {ma mb : M D} (hg : Gl X "range") (hm : X.mg "range" = none) (ha : PE X a (tD Γ W ma)) (hb : PE X b (tD Γ W mb)) (na : starEach [a, b] X.env = (false, eval a X.env) :: starEach [b] X.env := by rfl)
    (nb : starEach [b] X.env = (false, eval b X.env) :: starEach [] X.env := by rfl) (hp : (backTo pos (starEach [b] X.env)).any (·.1) = false := by rfl) : PRg X (.Call (.Name "range" p) [a, b] [] pos) (tRgD Γ W (rg2M ma mb)) := by
  refine PRg.imp (prg_2 hg hm ha hb na nb hp) fun σ H Q ⟨G, ρ, s, h⟩ => ⟨G, ρ, s, (post_bind.mp h).imp (fun d ρ1 h1 v G1 H1 x1 r1 => ?_) fun c ρ' e => e⟩
  refine ⟨G1, ρ1, x1.sr, (post_bind.mp h1).imp (fun e ρ2 h2 u G2 H2 x2 r2 => ?_) fun c ρ' e => e.tr x1⟩
  obtain ⟨z, hz, q⟩ := opt_post h2
  obtain ⟨n, m, rfl, rfl, hn⟩ := rng2_i hz
  cases r1
  cases r2
  exact ⟨n, m, rfl, rfl, q n m G2 H2 (x1.tr x2) hn⟩
theorem do_listRg {e : Expr} {m : M (List D)} (hc : X.calm = true) (hg : Gl X "list") (hm : X.mg "list" = none) (he : PRg X e (tRgD Γ W m)) (na : starEach [e] X.env = (false, eval e X.env) :: starEach [] X.env := by rfl) : PE X (.Call (.Name "list" p) [e] [] pos) (tO Γ W (oRgL m)) := by
  refine PE.imp (pe_listRg hc hg hm he na) fun σ H Q ⟨G, ρ, s, h⟩ => ⟨G, ρ, s, (post_bind.mp h).imp (fun ds ρ1 h1 lo hi G1 H1 x1 hr => ?_) fun c ρ' e => e⟩
  obtain ⟨ok, rp⟩ := rgV_rp (K := Γ.K) (G := G1) hr
  refine ⟨ok, fun q hq => ?_⟩
  have gq : G1 q = none := x1.sr.sub.none hq
  have y := x1.sr.ext (Ext0.newH (o := .lst (rgV lo hi)) x1.sr.sub hq)
  refine h1 _ G1 _ (x1.tr y) ⟨q, _, rfl, gq, upd_same, .lst rp, fun ⟨i, c, z1, z2⟩ => ?_, x1.was (.inr hq)⟩
  obtain ⟨a, u, f1, f2, f3, f4⟩ := x1.sr.own z1
  rw [z2] at f1; cases f1
  rw [hq] at f3; cases f3
theorem de_tupRg {e : Expr} {m : M (List D)} (hc : X.calm = true) (hg : Gl X "tuple") (hm : X.mg "tuple" = none) (he : PRg X e (tRgD Γ W m)) (na : starEach [e] X.env = (false, eval e X.env) :: starEach [] X.env := by rfl) : PE X (.Call (.Name "tuple" p) [e] [] pos) (tD Γ W (eRgT m)) := by
  refine PE.imp (pe_tupRg hc hg hm he na) fun σ H Q ⟨G, ρ, s, h⟩ => ⟨G, ρ, s, (post_bind.mp h).imp (fun ds ρ1 h1 lo hi G1 H1 x1 hr => ?_) fun c ρ' e => e⟩
  obtain ⟨ok, rp⟩ := rgV_rp (K := Γ.K) (G := G1) hr
  refine ⟨ok, fun q hq => ?_⟩
  have z := Ext0.new (o := .tup (rgV lo hi)) x1.sr.sub hq
  exact h1 _ _ _ (x1.tr (x1.sr.ext z)) (.tup upd_same (rp.mono z.g))
/-! ### {} -/
def oEmp : M OC := M.ret (.dK [])
theorem do_emp : PE X (.Dict [] [] pos) (tO Γ W oEmp) := PE.imp pe_dnewK fun σ H Q ⟨G, ρ, s, h⟩ q hq => by
  have gq : G q = none := s.sub.none hq
  have y := s.ext (Ext0.newH (o := .dK []) s.sub hq)
  refine h _ G _ y ⟨q, _, rfl, gq, upd_same, .dK .nil, fun ⟨i, c, z1, z2⟩ => ?_, .inr hq⟩
  obtain ⟨a, u, f1, f2, f3, f4⟩ := s.own z1
  rw [z2] at f1; cases f1
  rw [hq] at f3; cases f3
/-! ### xs.count(k) of ints -/
def gCount : D → D → Option D
  | .list xs, .int k => (intsOf xs).map fun ns => .int (ns.count k : Nat)
  | _, _ => none
def eCount (mo me : M D) : M D := mo.bind fun d => match d with
  | .list xs => me.bind fun y => M.opt (gCount (.list xs) y)
  | _ => M.fail
theorem de_count {e : Expr} {o : Expr} {mo me : M D} {apos cpos : Pos} (ho : PE X o (tD Γ W mo)) (he : PE X e (tD Γ W me)) (hK : X.K = Γ.K := by rfl)
    (hbase : attributeBase o "count" X.env (eval o X.env) = eval o X.env := by rfl)
    (hfew : ((backTo cpos (starEach [e] X.env)).all (fun x => !x.1) && (backToKw cpos (keywordEach [] X.env)).all (fun x => x.1.isSome) && decide (([e] : List Expr).length + ([] : List Keyword).length + (if ([] : List Keyword).isEmpty then 0 else 1) < 30)) = true := by rfl)
    (hline : (apos.endLine == cpos.line) = true := by rfl) (hs : starEach [e] X.env = (false, eval e X.env) :: starEach [] X.env := by rfl) :
    PE X (.Call (.Attribute o "count" apos) [e] [] cpos) (tD Γ W (eCount mo me)) := by
  refine PE.imp (pe_bm PySem.F.plainAttrs_list PySem.F.slot_list_count PySem.F.type_list_count mt_lcount ho (pa_cons he pa_nil hs) hbase hfew hline hs rfl) fun σ H Q ⟨G, ρ, s, h⟩ => ⟨G, ρ, s, (post_bind.mp h).imp (fun d ρ1 h1 v G1 H1 x1 r1 => ?_) fun c ρ' e => e⟩
  rw [hK]
  split at h1
  · rename_i xs
    cases r1 with | lst g w =>
    refine ⟨.inl ⟨rfl, _, SqL.of (x1.sr.sub _ _ g)⟩, G1, ρ1, x1.sr, (post_bind.mp h1).imp (fun y ρ2 h2 u G2 H2 x2 r2 => ?_) fun c ρ' e => e.tr x1⟩
    obtain ⟨z, hz, q⟩ := opt_post h2
    unfold gCount at hz
    split at hz
    · rename_i _ _ ys k e1
      cases e1
      cases r2
      cases e : intsOf xs with
      | none => rw [e] at hz; cases hz
      | some ns =>
        rw [e] at hz
        cases hz
        have e2 := intsOf_eq e
        subst e2
        have e3 := w.ints
        subst e3
        exact ⟨_, ns, k, rfl, rfl, SqL.of (x2.sr.sub _ _ (x2.fr.ext _ _ g)), q _ _ _ (x1.tr x2) (.int _)⟩
    · cases hz
  · exact h1.elim
end
end DL

/-! DLp: t[::-1] of a tuple, xs[::-1] of a list. -/
namespace DL
open PySem PySem.Spec PyProof.Rows L2
section
variable {prog : Program} {w : World} {A : Around} {E : Value → Shared → Prop} {s : Shared}
theorem places_rev (n : Nat) : Builtin.Slice.slicePlaces ((n : Int) - 1) (-1) (-1) = n := by
  unfold Builtin.Slice.slicePlaces
  rw [if_neg (by decide)]
  by_cases h : (n : Int) - 1 > -1
  · rw [if_pos h]; simp
  · rw [if_neg h]; omega
theorem fm_congr {α β : Type} {f g : α → Option β} : ∀ {l : List α}, (∀ x ∈ l, f x = g x) → l.filterMap f = l.filterMap g
  | [], _ => rfl
  | x :: l, h => by
    rw [List.filterMap_cons, List.filterMap_cons, h x (by simp), fm_congr fun y hy => h y (by simp [hy])]
theorem pick_rev (xs : Array Value) : ((List.range xs.size).filterMap fun (k : Nat) => xs[((xs.size : Int) - 1 + (k : Int) * -1).toNat]?) = xs.toList.reverse := by
  rw [← PySem.W.krv_all xs, ← List.filterMap_reverse, ← PySem.W.krv_range, List.filterMap_map]
  refine fm_congr fun k hk => ?_
  have hk : k < xs.size := by simpa using hk
  show _ = xs[xs.size - 1 - k]?
  rw [show ((xs.size : Int) - 1 + (k : Int) * -1).toNat = xs.size - 1 - k by omega]
theorem slice_rev {sl : Addr} {vl vu vs : Value} {n : Nat} {Q : Int × Int × Nat → Shared → Prop} (hs : s.heap.IsSliceOf sl vl vu vs) (pl : IsPart vl none) (pu : IsPart vu none) (ps : IsPart vs (some (-1)))
    (h : Q ((n : Int) - 1, -1, n) s) : wpAny (model prog w) A (Builtin.Slice.sliceApplied (.ref sl) (pure (n : Int))) Q E s := by
  obtain ⟨os, hos, hcs, hds⟩ := id hs
  unfold Builtin.Slice.sliceApplied Builtin.Slice.sliceFields
  refine wpAny_bind (wpAny_bind (wpAny_field hos hds (x := vl) rfl (wpAny_bind (wpAny_field hos hds (x := vu) rfl (wpAny_bind (wpAny_field hos hds (x := vs) rfl (wpAny_pure ?_)))))))
  refine wpAny_bind (HT.slicePart_ ps ?_)
  show wpAny _ _ (if ((-1 : Int) == 0) = true then _ else _) _ _ s
  rw [if_neg (by decide)]
  refine wpAny_bind (HT.slicePart_ pl (wpAny_bind (HT.slicePart_ pu (wpAny_bind (wpAny_pure ?_)))))
  show wpAny _ _ (pure ((Builtin.Slice.sliceAdjust none none (-1) n).1, (-1 : Int), Builtin.Slice.slicePlaces (Builtin.Slice.sliceAdjust none none (-1) n).1 (Builtin.Slice.sliceAdjust none none (-1) n).2 (-1))) _ _ s
  refine wpAny_pure ?_
  have e1 : Builtin.Slice.sliceAdjust none none (-1) n = ((n : Int) - 1, -1) := rfl
  rw [e1]
  show Q ((n : Int) - 1, -1, Builtin.Slice.slicePlaces ((n : Int) - 1) (-1) (-1)) s
  rw [places_rev]; exact h
theorem getItem_tuple_rev {t sl : Addr} {items : Array Value} {vl vu vs : Value} {Q : Value → Shared → Prop} (ht : IsTup s.heap t items) (hs : s.heap.IsSliceOf sl vl vu vs) (pl : IsPart vl none) (pu : IsPart vu none) (ps : IsPart vs (some (-1)))
    (h : Q (.ref s.heap.objs.size) { s with heap := s.heap.push { cls := .type "tuple", data := .seq items.toList.reverse.toArray } }) (hsz : items.size ≤ sizeLine) : wpAny (model prog w) A (getItem (.ref t) (.ref sl)) Q E s := by
  have hrev : sizeOk (.seq items.toList.reverse.toArray) := by
    show items.toList.reverse.toArray.size ≤ sizeLine
    rw [List.size_toArray, List.length_reverse, Array.length_toList]; exact hsz
  obtain ⟨os, hos, hcs, hds⟩ := id hs
  have hTs : s.TypeIs (.ref sl) "slice" := ⟨os, hos, hcs⟩
  unfold getItem
  try with_reducible refine wpAny_holding ?_
  first | refine wpAny_bind (wpAny_pure ?_) | skip
  refine wpAny_bind (wpAny_sequenceKey ht.typeIs (by decide) ?_)
  refine wpAny_bind (wpAny_callSpecial?_slot (name := Str.ofString "__getitem__") ht.typeIs slot_tuple_getitem (wpAny_call_entry slot_tuple_getitem ht.typeIs entry_tuple_getitem ?_ (args_tuple_getitem _ _)))
  refine wpAny_bind (m := Builtin.Tuple.tupleItemsOf (.ref t)) (tupleItemsOf_ ht ?_)
  refine wpAny_bind (wpAny_typeOf hTs ?_)
  rw [if_pos (by decide)]
  refine wpAny_bind (slice_rev hs pl pu ps ?_)
  have hno : ¬ (((((items.size : Nat) : Int) - 1) == 0 && (-1 : Int) == 1 && items.size == items.size) = true) := by simp
  show wpAny _ _ (if ((((items.size : Nat) : Int) - 1) == 0 && (-1 : Int) == 1 && items.size == items.size) = true then _ else _) _ _ s
  rw [if_neg hno, pick_rev]
  first
    | exact wpAny_bind (m := Builtin.Tuple.tupleExact _) (wpAny_newObj_type (wpAny_pure ⟨_, rfl, wpAny_pure h⟩) hrev)
    | exact wpAny_bind (m := Builtin.Tuple.tupleExact _) (wpAny_newObj_type (wpAny_bind (wpAny_pure (wpAny_pure ⟨_, rfl, wpAny_pure h⟩))) hrev)
    | exact wpAny_bind (wpAny_bind (m := Builtin.Tuple.tupleExact _) (wpAny_newObj_type (wpAny_pure (wpAny_pure ⟨_, rfl, wpAny_pure h⟩)) hrev))
    | exact wpAny_bind (wpAny_bind (m := Builtin.Tuple.tupleExact _) (wpAny_newObj_type (wpAny_pure ⟨_, rfl, wpAny_pure h⟩) hrev))
end
def tRevT (K : PySem.W.Frag) (te : TE) : TE := fun σ H Q => te σ H fun x H1 => ∃ a xs, x = .ref a ∧ SqT K H1 a xs ∧ ∀ p, H1 p = none → Q (.ref p) (upd H1 p (.tup xs.reverse))
section
variable {X : Cx} {e : Expr} {te : TE} {k : Nat} {p1 p2 p3 pos : Pos}
theorem pe_revT (he : PE X e te) : PE X (.Subscript e (.Slice none none (some (.UnaryOp .USub (.Constant (.int 1) k p1) p2)) p3) pos) (tRevT X.K te) := by
  refine ⟨fun pins s σ H Q I h => ?_⟩
  refine Subscript_ (thn (he.run pins s σ H _ I h) fun v s1 ⟨x, H1, I1, rx, z⟩ => ?_)
  obtain ⟨a, xs, rfl, hx, q⟩ := z
  cases rx
  have hst : PO X (some (.UnaryOp .USub (.Constant (.int 1) k p1) p2)) (tPart (tUn (rU fun i => .int (-i)) (tC (.int 1)))) := po_some (pe_un un_neg pe_int)
  refine wpAny_Slice (thn (po_none.run pins s1 σ H1 (fun o H2 => o = none ∧ H2 = H1) I1 ⟨rfl, rfl⟩) fun vl s2 ⟨_, H2, I2, pl, c1, c2⟩ => ?_)
  subst c1 c2
  refine thn (po_none.run pins s2 σ H2 (fun o H3 => o = none ∧ H3 = H2) I2 ⟨rfl, rfl⟩) fun vu s3 ⟨_, H3, I3, pu, c3, c4⟩ => ?_
  subst c3 c4
  refine thn (hst.run pins s3 σ H3 (fun o H4 => o = some (-1) ∧ H4 = H3) I3 ⟨1, rfl, -1, rfl, rfl, rfl⟩) fun vs s4 ⟨_, H4, I4, ps, c5, c6⟩ => ?_
  subst c5 c6
  have I5 : Inv X pins σ H4 { s4 with heap := s4.heap.push { cls := .type "slice", data := .fields #[vl, vu, vs] } } := I4.kept (t' := s4.toks) fun b ob q => Heap.get?_push_of_some _ q
  obtain ⟨its, r, ht, hz⟩ := I5.tuple hx
  have hlen := r.length
  show wpAny (model X.prog X.w) X.A (subscriptTail e (.Slice none none (some (.UnaryOp .USub (.Constant (.int 1) k p1) p2)) p3) (.ref a) (.ref s4.heap.objs.size)) (EP X pins σ Q) X.xe _
  refine tail_any (ops := [.ref a, .ref s4.heap.objs.size]) ht.typeIs (PyProof.Rows.slot_tuple_getitem.lookup) ?_ (by with_unfolding_all rfl)
  refine getItem_tuple_rev ht (Heap.IsSliceOf.new _ vl vu vs) pl pu ps ?_ (by rw [List.size_toArray]; omega)
  refine ⟨.ref _, _, I5.laid (t' := s4.toks) (o := .tup xs.reverse) (fun b ob q => Heap.get?_push_of_some _ q) (Nat.le_refl _) ?_, rfl, q _ (I5.hok.fresh (Nat.le_refl _))⟩
  exact ⟨by rw [List.length_reverse]; exact hz, _, r.reverse, IsTup.new _ _⟩
variable {Γ : Gm} {W : WX}
def eRev (m : M D) : M D := m.bind fun d => match d with
  | .list xs => M.ret (.list xs.reverse)
  | .tuple xs => M.ret (.tuple xs.reverse)
  | _ => M.fail
theorem PE.or {e : Expr} {t u : TE} (h1 : PE X e t) (h2 : PE X e u) : PE X e fun σ H Q => t σ H Q ∨ u σ H Q :=
  ⟨fun pins s σ H Q I h => h.elim (h1.run pins s σ H Q I) (h2.run pins s σ H Q I)⟩
theorem de_rev {m : M D} (he : PE X e (tD Γ W m)) (hK : X.K = Γ.K := by rfl) : PE X (.Subscript e (.Slice none none (some (.UnaryOp .USub (.Constant (.int 1) k p1) p2)) p3) pos) (tD Γ W (eRev m)) := by
  refine PE.imp (PE.or (pe_revL he) (pe_revT he)) fun σ H Q ⟨G, ρ, s, h⟩ => ?_
  have h2 := post_bind.mp h
  rw [hK]
  cases em : m ρ with
  | bad => rw [em] at h2; exact h2.elim
  | err c ρ1 => rw [em] at h2; exact .inl ⟨G, ρ, s, by rw [em]; exact h2⟩
  | ok d ρ1 =>
    rw [em] at h2
    cases d with
    | list xs =>
      refine .inl ⟨G, ρ, s, by
        rw [em]
        intro v G1 H1 x1 r1
        obtain ⟨a, vs, rfl, g, w⟩ : ∃ a vs, v = V.ref a ∧ G1 a = some (.lst vs) ∧ RpAll Γ.K G1 vs xs := by cases r1 with | lst g w => exact ⟨_, _, rfl, g, w⟩
        refine ⟨_, _, rfl, SqL.of (x1.sr.sub _ _ g), fun p np => ?_⟩
        have z := Ext0.new (o := .lst vs.reverse) x1.sr.sub np
        exact h2 _ _ _ (x1.tr (x1.sr.ext z)) (.lst upd_same ((w.mono z.g).rev))⟩
    | tuple xs =>
      refine .inr ⟨G, ρ, s, by
        rw [em]
        intro v G1 H1 x1 r1
        obtain ⟨a, vs, rfl, g, w⟩ : ∃ a vs, v = V.ref a ∧ G1 a = some (.tup vs) ∧ RpAll Γ.K G1 vs xs := by cases r1 with | tup g w => exact ⟨_, _, rfl, g, w⟩
        refine ⟨_, _, rfl, x1.sr.sub.seqT g, fun p np => ?_⟩
        have z := Ext0.new (o := .tup vs.reverse) x1.sr.sub np
        exact h2 _ _ _ (x1.tr (x1.sr.ext z)) (.tup upd_same ((w.mono z.g).rev))⟩
    | _ => exact h2.elim
end
end DL

/-! DLq: a + b as a fresh list. -/
namespace DL
open PySem PySem.Spec L2
section
variable {X : Cx} {Γ : Gm} {W : WX} {pos : Pos} {a b : Expr} {ma mb : M D}
/-- a + b of two lists, a fresh object -/
def oCat (ma mb : M D) : M OC := ma.bind fun x => mb.bind fun y => match x, y with
  | .list xs, .list ys => if xs.length + ys.length ≤ 16777216 then M.ret (.lst (xs ++ ys)) else M.fail
  | _, _ => M.fail
theorem do_cat (ha : PE X a (tD Γ W ma)) (hb : PE X b (tD Γ W mb)) (hK : X.K = Γ.K := by rfl) : PE X (.BinOp a .Add b pos) (tO Γ W (oCat ma mb)) := by
  refine PE.imp (pe_op op_cat ha hb) fun σ H Q ⟨G, ρ, s, h⟩ => ⟨G, ρ, s, (post_bind.mp h).imp (fun d ρ1 h1 v G1 H1 x1 r1 => ?_) fun c ρ' e => e⟩
  refine ⟨G1, ρ1, x1.sr, (post_bind.mp h1).imp (fun e ρ2 h2 u G2 H2 x2 r2 => ?_) fun c ρ' e => e.tr x1⟩
  split at h2
  · rename_i xs ys
    obtain ⟨hl, q⟩ := ite_post h2
    obtain ⟨a1, vs, rfl, g1, w1⟩ : ∃ a vs, v = V.ref a ∧ G2 a = some (.lst vs) ∧ RpAll Γ.K G2 vs xs := by
      cases r1 with | lst g w => exact ⟨_, _, rfl, x2.fr.ext _ _ g, w.mono x2.fr.ext⟩
    obtain ⟨a2, us, rfl, g2, w2⟩ : ∃ a vs, u = V.ref a ∧ G2 a = some (.lst vs) ∧ RpAll Γ.K G2 vs ys := by
      cases r2 with | lst g w => exact ⟨_, _, rfl, g, w⟩
    refine ⟨a1, a2, vs, us, rfl, rfl, x2.sr.sub _ _ g1, x2.sr.sub _ _ g2, size_line (by rw [w1.length, w2.length]; exact hl), fun p np => ?_⟩
    have gp : G2 p = none := x2.sr.sub.none np
    have y := x2.sr.ext (Ext0.newH (o := .lst (vs ++ us)) x2.sr.sub np)
    refine q _ G2 _ ((x1.tr x2).tr y) ⟨p, _, rfl, gp, upd_same, .lst (w1.append w2), fun ⟨i, c, z1, z2⟩ => ?_, (x1.tr x2).was (.inr np)⟩
    obtain ⟨a, u, f1, f2, f3, f4⟩ := x2.sr.own z1
    rw [z2] at f1; cases f1
    rw [np] at f3; cases f3
  · exact h2.elim
end
end DL

/-! DLr: == and != of lists of different lengths, of tuples against (). -/
namespace DL
open PySem PySem.Spec L2
def rLenE (K : PySem.W.Frag) (b : Bool) : R2 := fun x y H Q => ∃ p q xs ys, x = .ref p ∧ y = .ref q ∧ ((SqL K H p xs ∧ SqL K H q ys ∧ xs.length ≠ ys.length) ∨ (SqT K H p xs ∧ SqT K H q ys ∧ xs ≠ [] ∧ ys = [])) ∧ Q (.bl b) H
section
variable {X : Cx}
theorem op_eqLen (hu : X.A.units + 64 < cLine) : OpR X (compareOp .Eq) (rLenE X.K false) := by
  intro pins s σ H x y v u Q I rx ry h
  obtain ⟨p, q, xs, ys, rfl, rfl, hk, hq⟩ := h
  cases rx
  cases ry
  rcases hk with ⟨h1, h2, hn⟩ | ⟨h1, h2, hn, rfl⟩
  · obtain ⟨its, rv, t1, _⟩ := I.list h1
    obtain ⟨its2, rv2, t2, _⟩ := I.list h2
    refine SeqAt.eq_list_lengthsAt t1.isList t2.isList ?_ (by omega) ⟨.bl false, H, I, rfl, hq⟩
    have e1 := rv.length
    have e2 := rv2.length
    simp
    omega
  · obtain ⟨its, rv, t1, _⟩ := I.tuple h1
    obtain ⟨its2, rv2, t2, _⟩ := I.tuple h2
    cases rv2
    refine SeqAt.eq_tupleAt (e := fun _ => true) t1 t2 (by omega) (fun j h1 h2 => absurd h2 (by simp)) ?_
    refine ⟨.bl false, H, I, ?_, hq⟩
    have e1 := rv.length
    have : its ≠ [] := fun z => hn (by rw [z] at e1; exact List.length_eq_zero_iff.mp e1)
    show _ = Value.bool false
    cases its with
    | nil => exact absurd rfl this
    | cons a r => simp
theorem op_neLen (hu : X.A.units + 64 < cLine) : OpR X (compareOp .NotEq) (rLenE X.K true) := by
  intro pins s σ H x y v u Q I rx ry h
  obtain ⟨p, q, xs, ys, rfl, rfl, hk, hq⟩ := h
  cases rx
  cases ry
  rcases hk with ⟨h1, h2, hn⟩ | ⟨h1, h2, hn, rfl⟩
  · obtain ⟨its, rv, t1, _⟩ := I.list h1
    obtain ⟨its2, rv2, t2, _⟩ := I.list h2
    refine SeqAt.RcNeAt.lists_lengths t1.isList t2.isList ?_ (by omega) X.prog X.w _ _ ⟨.bl true, H, I, rfl, hq⟩
    have e1 := rv.length
    have e2 := rv2.length
    simp
    omega
  · obtain ⟨its, rv, t1, _⟩ := I.tuple h1
    obtain ⟨its2, rv2, t2, _⟩ := I.tuple h2
    cases rv2
    refine SeqAt.RcNeAt.tuples (e := fun _ => true) t1 t2 (by omega) (fun j h1 h2 => absurd h2 (by simp)) X.prog X.w _ _ ?_
    refine ⟨.bl true, H, I, ?_, hq⟩
    have e1 := rv.length
    have : its ≠ [] := fun z => hn (by rw [z] at e1; exact List.length_eq_zero_iff.mp e1)
    show _ = Value.bool true
    cases its with
    | nil => exact absurd rfl this
    | cons a r => simp
end
def lenE (b : Bool) : D → D → Option D
  | .list xs, .list ys => if xs.length = ys.length then none else some (.bool b)
  | .tuple (_ :: _), .tuple [] => some (.bool b)
  | _, _ => none
/-- == , also where a {} is inside and the lengths tell -/
def gEqX (d e : D) : Option D := match gEq d e with
  | some z => some z
  | none => lenE false d e
def gNeX (d e : D) : Option D := match gNe d e with
  | some z => some z
  | none => lenE true d e
theorem lenE_r2 {K : PySem.W.Frag} {b : Bool} : R2P K (rLenE K b) (lenE b) := by
  intro G H x y d e z Q s rx ry hz q
  unfold lenE at hz
  split at hz
  · split at hz
    · cases hz
    · rename_i hl
      cases hz
      cases rx with | lst g1 w1 =>
      cases ry with | lst g2 w2 =>
      exact ⟨_, _, _, _, rfl, rfl, .inl ⟨SqL.of (s _ _ g1), SqL.of (s _ _ g2), by rw [w1.length, w2.length]; exact hl⟩, scal_ret s (fun _ => .bl _) q⟩
  · cases hz
    cases rx with | tup g1 w1 =>
    cases ry with | tup g2 w2 =>
    cases w2
    cases w1
    exact ⟨_, _, _, _, rfl, rfl, .inr ⟨s.seqT g1, s.seqT g2, by simp, rfl⟩, scal_ret s (fun _ => .bl _) q⟩
  · cases hz
def rEqX (K : PySem.W.Frag) : R2 := fun x y H Q => rEqD K x y H Q ∨ rLenE K false x y H Q
def rNeX (K : PySem.W.Frag) : R2 := fun x y H Q => rNeD K x y H Q ∨ rLenE K true x y H Q
theorem op_eqX {X : Cx} (hu : X.A.units + 64 < cLine) : OpR X (compareOp .Eq) (rEqX X.K) := (op_eqD hu).or (op_eqLen hu)
theorem op_neX {X : Cx} (hu : X.A.units + 64 < cLine) : OpR X (compareOp .NotEq) (rNeX X.K) := (op_neD hu).or (op_neLen hu)
theorem eqX_r2 {K : PySem.W.Frag} : R2P K (rEqX K) gEqX := by
  intro G H x y d e z Q s rx ry hz q
  unfold gEqX at hz
  split at hz
  · rename_i w hw
    cases hz
    exact .inl (eqD_r2 G H x y d e z Q s rx ry hw q)
  · exact .inr (lenE_r2 G H x y d e z Q s rx ry hz q)
theorem neX_r2 {K : PySem.W.Frag} : R2P K (rNeX K) gNeX := by
  intro G H x y d e z Q s rx ry hz q
  unfold gNeX at hz
  split at hz
  · rename_i w hw
    cases hz
    exact .inl (neD_r2 G H x y d e z Q s rx ry hw q)
  · exact .inr (lenE_r2 G H x y d e z Q s rx ry hz q)
theorem lenE_bool {b : Bool} : boolR (lenE b) := fun d e z h => by
  unfold lenE at h
  split at h
  · split at h
    · cases h
    · cases h; exact ⟨_, rfl⟩
  · cases h; exact ⟨_, rfl⟩
  · cases h
theorem gEqX_bool : boolR gEqX := fun d e z h => by
  unfold gEqX at h
  split at h
  · rename_i w hw
    cases h
    exact gEq_bool d e _ hw
  · exact lenE_bool d e z h
theorem gNeX_bool : boolR gNeX := fun d e z h => by
  unfold gNeX at h
  split at h
  · rename_i w hw
    cases h
    exact gNe_bool d e _ hw
  · exact lenE_bool d e z h
end DL

/-! DLs: repr of data that holds {} and no list. -/
namespace DL
open PySem PySem.Spec L2
mutual
def noList : D → Bool
  | .none | .bool _ | .int _ | .str _ | .dict [] => true
  | .tuple xs => noListAll xs
  | .list _ | .dict _ => false
def noListAll : List D → Bool
  | [] => true
  | x :: xs => noList x && noListAll xs
end
section
variable {X : Cx} {pins : List (Addr × Obj)} {σ : L2.St} {H : Hp} {s : Shared}
mutual
theorem Rp.readsN (I : Inv X pins σ H s) : ∀ (d : D) (v : V) (u : Value), noList d = true → Rp X.K H v d → RelV v u → ∃ as, Reads s.heap u d as ∧ ∀ a ∈ as, (a == sysModules) = false
  | .none, _, _, _, h, r => by cases h; cases r; exact ⟨_, .none, by simp⟩
  | .bool b, _, _, _, h, r => by cases h; cases r; exact ⟨_, .bool b, by simp⟩
  | .int i, _, _, _, h, r => by cases h; obtain ⟨t, rfl⟩ := r; exact ⟨_, .int i t, by simp⟩
  | .str x, _, _, _, h, r => by cases h; obtain ⟨t, rfl⟩ := r; exact ⟨_, .str x t, by simp⟩
  | .tuple ds, _, _, n, h, r => by
    cases h with
    | tup hs ha =>
      cases r
      obtain ⟨its, rv, ⟨o, ho, hc, n', hd⟩, _⟩ := I.tuple (SqT.of hs)
      obtain ⟨as, hr, hn⟩ := RpAll.readsN I ds _ its (by simpa [noList] using n) ha rv
      exact ⟨_, .tuple ho hc hd hr, hn⟩
  | .dict [], _, _, _, h, r => by
    cases h with
    | emp g =>
      cases r
      obtain ⟨_, hne, vs, rel, dd⟩ := I.hok _ _ g
      cases rel
      obtain ⟨o, es, ep, ho, ex, hd, _, pr, _⟩ := dd
      have e0 : es.toList = [] := by
        cases q : es.toList with
        | nil => rfl
        | cons a r => rw [q] at pr; cases pr
      refine ⟨_, Reads.dict (kvs := []) (as := []) (bs := []) ho ex.1 hd (by rw [e0]; exact .nil) (by rw [e0]; exact .nil), fun b hb => ?_⟩
      rw [List.append_nil, List.mem_singleton] at hb
      rw [hb]
      exact hne
  | .list _, _, _, n, _, _ => by simp [noList] at n
  | .dict (_ :: _), _, _, n, _, _ => by simp [noList] at n
theorem RpAll.readsN (I : Inv X pins σ H s) : ∀ (ds : List D) (vs : List V) (us : List Value), noListAll ds = true → RpAll X.K H vs ds → Vals vs us → ∃ as, ReadsAll s.heap us ds as ∧ ∀ a ∈ as, (a == sysModules) = false
  | [], _, _, _, h, r => by cases h; cases r; exact ⟨_, .nil, by simp⟩
  | d :: ds, _, _, n, h, r => by
    have n : noList d = true ∧ noListAll ds = true := by simpa [noListAll] using n
    cases h with
    | cons h1 h2 =>
      cases r with
      | cons r1 r2 =>
        obtain ⟨as, q1, z1⟩ := Rp.readsN I d _ _ n.1 h1 r1
        obtain ⟨bs, q2, z2⟩ := RpAll.readsN I ds _ _ n.2 h2 r2
        exact ⟨_, .cons q1 q2, fun a ha => (List.mem_append.mp ha).elim (z1 a) (z2 a)⟩
end
end
def rReprN (K : PySem.W.Frag) : List V → Hp → VK → Prop := fun xs H Q => ∃ v d, xs = [v] ∧ Rp K H v d ∧ noList d = true ∧ d.showable = true ∧ d.depth ≤ 64 ∧ d.shown.length ≤ sizeLine ∧ Q (.str d.shown) H
theorem call_reprN {X : Cx} (hgd : X.A.guards = some []) (hu : X.A.units + 65 < cLine) : CallR X (.builtin "repr") (rReprN X.K) := by
  intro pins s σ H xs us Q I r h
  obtain ⟨v, d, rfl, rp, nl, hs, hd, hl, q⟩ := h
  obtain ⟨u, rfl, ru⟩ := vals1 r
  obtain ⟨as, rd, hn⟩ := Rp.readsN I d v u nl rp ru
  have hsm : sysModules ∉ as := fun z => by have := hn _ z; simp at this
  have keep : ∀ h' tk, (∀ b o, s.heap.get? b = some o → h'.get? b = some o) → Inv X pins σ H { s with heap := h', toks := tk } := fun h' tk k => I.kept k
  cases rd with
  | none => simp only [PyData.shown] at q; exact PySem.P.repr_of_none ⟨.str _, H, I.tok _, ⟨_, rfl⟩, q⟩
  | bool b => simp only [PyData.shown] at q; exact PySem.P.repr_of_bool ⟨.str _, H, I.tok _, ⟨_, rfl⟩, q⟩
  | int i t => simp only [PyData.shown] at q; exact PySem.P.repr_of_int (by simpa [PyData.showable] using hs) ⟨.str _, H, I.tok _, ⟨_, rfl⟩, q⟩
  | str x t => simp only [PyData.shown] at q hl; exact PySem.P.repr_of_str ⟨.str _, H, I.tok _, ⟨_, rfl⟩, q⟩ hl
  | list h1 h2 h3 h4 => exact repr_of_reads' (.list h1 h2 h3 h4) hs (fun _ => hsm) hgd (by omega) (fun _ _ e => e) (fun h' u tk k => ⟨.str _, H, keep h' tk k, ⟨_, rfl⟩, q⟩) hl
  | tuple h1 h2 h3 h4 => exact repr_of_reads' (.tuple h1 h2 h3 h4) hs (fun _ => hsm) hgd (by omega) (fun _ _ e => e) (fun h' u tk k => ⟨.str _, H, keep h' tk k, ⟨_, rfl⟩, q⟩) hl
  | dict h1 h2 h3 h4 h5 => exact repr_of_reads' (.dict h1 h2 h3 h4 h5) hs (fun _ => hsm) hgd (by omega) (fun _ _ e => e) (fun h' u tk k => ⟨.str _, H, keep h' tk k, ⟨_, rfl⟩, q⟩) hl
def gReprX : List D → Option D
  | [d] => match reprD d with
    | some z => some z
    | none => if d.showable && decide (d.depth ≤ 64) && decide (d.shown.length ≤ 16777216) && noList d then some (.str d.shown) else none
  | _ => none
def rReprX (K : PySem.W.Frag) : List V → Hp → VK → Prop := fun xs H Q => rReprD K xs H Q ∨ rReprN K xs H Q
theorem call_reprX {X : Cx} (hgd : X.A.guards = some []) (hu : X.A.units + 65 < cLine) : CallR X (.builtin "repr") (rReprX X.K) := (call_reprD hgd hu).or (call_reprN hgd hu)
theorem reprX_n {K : PySem.W.Frag} : RNP K (rReprX K) gReprX := by
  intro G H xs ds z Q s r hz q
  unfold gReprX at hz
  split at hz
  · rename_i d
    split at hz
    · rename_i w hw
      cases hz
      exact .inl (reprD_n G H xs [d] z Q s r hw q)
    · split at hz
      · rename_i hc
        cases hz
        simp only [Bool.and_eq_true, decide_eq_true_eq] at hc
        obtain ⟨⟨⟨c1, c2⟩, c3⟩, c4⟩ := hc
        cases r with | cons a b =>
        cases b
        exact .inr ⟨_, d, rfl, a.mono s, c4, c1, c2, size_line c3, scal_ret s (fun _ => .str _) q⟩
      · cases hz
  · cases hz
end DL

/-! DLt: evaluation of mirrors, further: short circuits, calls, loops with a way out, wide data. -/
namespace DL
open PySem PySem.Spec L2
section
variable {α : Type} {ρ ρ1 ρ2 ρ3 ρ' : Rho}
theorem callF_ok {F : M Slot} {as : List Arg} {r : Slot} {ss ss' : Rho} (hs : argSlots ρ as = some ss) (hf : F ss = .ok r ss') (hb : backR as ss' ρ = some ρ') (nd : ndA as = true := by rfl) : callF F as ρ = .ok r ρ' := by
  unfold callF; rw [if_pos nd, hs]; simp only [hf, hb]
theorem eCF_ok {F : M Slot} {m : M (List Arg)} {as : List Arg} {r : Slot} {ss ss' : Rho} (h : m ρ = .ok as ρ1) (hs : argSlots ρ1 as = some ss) (hf : F ss = .ok r ss') (hb : backR as ss' ρ1 = some ρ2) (nd : ndA as = true := by rfl) : eCallF F m ρ = .ok r ρ2 :=
  eCallF_ok h (callF_ok hs hf hb nd)
def slotD : Slot → Option D
  | .fz d => some d
  | .own (.lst xs) => some (.list xs)
  | _ => none
theorem ofR_any {m : M Slot} {s : Slot} {d : D} (h : m ρ = .ok s ρ1) (hd : slotD s = some d) : ofR m ρ = .ok d ρ1 := by
  unfold ofR; rw [bind_ok h]
  cases s with
  | un => cases hd
  | ex _ => cases hd
  | fz e => cases hd; rfl
  | own c => cases c <;> cases hd; rfl
def ocD : OC → Option D
  | .lst xs => some (.list xs)
  | .dK [] => some (.dict [])
  | _ => none
theorem ofO_any {m : M OC} {c : OC} {d : D} (h : m ρ = .ok c ρ1) (hd : ocD c = some d) : ofO m ρ = .ok d ρ1 := by
  unfold ofO; rw [bind_ok h]
  cases c with
  | lst xs => cases hd; rfl
  | dT _ => cases hd
  | dN _ => cases hd
  | dK l => cases l <;> cases hd; rfl
theorem oEmp_ok : oEmp ρ = .ok (.dK []) ρ := rfl
theorem oCat_ok {ma mb : M D} {xs ys : List D} (ha : ma ρ = .ok (.list xs) ρ1) (hb : mb ρ1 = .ok (.list ys) ρ2) (hl : xs.length + ys.length ≤ 16777216) : oCat ma mb ρ = .ok (.lst (xs ++ ys)) ρ2 := by
  unfold oCat; rw [bind_ok ha, bind_ok hb]; simp only [if_pos hl]; rfl
theorem eAnd_b {ma mb : M D} {b c : Bool} (ha : ma ρ = .ok (.bool b) ρ1) (hb : b = true → mb ρ1 = .ok (.bool c) ρ1) : eAnd ma mb ρ = .ok (.bool (b && c)) ρ1 := by
  unfold eAnd; rw [bind_ok ha]
  cases b with
  | true => exact hb rfl
  | false => rfl
theorem eOr_b {ma mb : M D} {b c : Bool} (ha : ma ρ = .ok (.bool b) ρ1) (hb : b = false → mb ρ1 = .ok (.bool c) ρ1) : eOr ma mb ρ = .ok (.bool (b || c)) ρ1 := by
  unfold eOr; rw [bind_ok ha]
  cases b with
  | true => rfl
  | false => exact hb rfl
theorem bAnd_b {ma mb : M Bool} {b c : Bool} (ha : ma ρ = .ok b ρ1) (hb : b = true → mb ρ1 = .ok c ρ1) : bAnd ma mb ρ = .ok (b && c) ρ1 := by
  unfold bAnd; rw [bind_ok ha]
  cases b with
  | true => exact hb rfl
  | false => rfl
theorem bOr_b {ma mb : M Bool} {b c : Bool} (ha : ma ρ = .ok b ρ1) (hb : b = false → mb ρ1 = .ok c ρ1) : bOr ma mb ρ = .ok (b || c) ρ1 := by
  unfold bOr; rw [bind_ok ha]
  cases b with
  | true => rfl
  | false => exact hb rfl
theorem bAnd_f {ma mb : M Bool} (ha : ma ρ = .ok false ρ1) : bAnd ma mb ρ = .ok false ρ1 := by unfold bAnd; rw [bind_ok ha]; rfl
theorem bAnd_t {ma mb : M Bool} {c : Bool} (ha : ma ρ = .ok true ρ1) (hb : mb ρ1 = .ok c ρ2) : bAnd ma mb ρ = .ok c ρ2 := by unfold bAnd; rw [bind_ok ha]; exact hb
theorem bOr_t {ma mb : M Bool} (ha : ma ρ = .ok true ρ1) : bOr ma mb ρ = .ok true ρ1 := by unfold bOr; rw [bind_ok ha]; rfl
theorem bOr_f {ma mb : M Bool} {c : Bool} (ha : ma ρ = .ok false ρ1) (hb : mb ρ1 = .ok c ρ2) : bOr ma mb ρ = .ok c ρ2 := by unfold bOr; rw [bind_ok ha]; exact hb
theorem eIf_b {c : M Bool} {ma mb : M D} {b : Bool} {x y : D} (hc : c ρ = .ok b ρ1) (ht : b = true → ma ρ1 = .ok x ρ2) (hf : b = false → mb ρ1 = .ok y ρ2) : eIf c ma mb ρ = .ok (if b then x else y) ρ2 := by
  unfold eIf; rw [bind_ok hc]
  cases b with
  | true => exact ht rfl
  | false => exact hf rfl
theorem eNot_ok {m : M D} {b : Bool} (h : m ρ = .ok (.bool b) ρ1) : eNot m ρ = .ok (.bool !b) ρ1 := by unfold eNot; rw [bind_ok h]; rfl
theorem eIsi_ok {T : String} {m : M D} {d z : D} (h : m ρ = .ok d ρ1) (hz : isiD T d = some z) : eIsi T m ρ = .ok z ρ1 := by unfold eIsi; rw [bind_ok h, hz]; rfl
theorem pNone_ok : pNone ρ = .ok none ρ := rfl
theorem pSome_ok {m : M D} {i : Int} (h : m ρ = .ok (.int i) ρ1) : pSome m ρ = .ok (some i) ρ1 := by unfold pSome; rw [bind_ok h]; rfl
theorem eSl_ok {me : M D} {ml mh : M (Option Int)} {d z : D} {lo hi : Option Int} (h : me ρ = .ok d ρ1) (hl : ml ρ1 = .ok lo ρ2) (hh : mh ρ2 = .ok hi ρ3) (hz : gSl d lo hi = some z) : eSl me ml mh ρ = .ok z ρ3 := by
  unfold eSl; rw [bind_ok h, bind_ok hl, bind_ok hh, hz]; rfl
theorem eRev_tup {m : M D} {xs : List D} (h : m ρ = .ok (.tuple xs) ρ1) : eRev m ρ = .ok (.tuple xs.reverse) ρ1 := by unfold eRev; rw [bind_ok h]; rfl
theorem eRev_lst {m : M D} {xs : List D} (h : m ρ = .ok (.list xs) ρ1) : eRev m ρ = .ok (.list xs.reverse) ρ1 := by unfold eRev; rw [bind_ok h]; rfl
theorem eCount_ok {mo me : M D} {xs : List D} {y z : D} (h : mo ρ = .ok (.list xs) ρ1) (he : me ρ1 = .ok y ρ2) (hz : gCount (.list xs) y = some z) : eCount mo me ρ = .ok z ρ2 := by
  unfold eCount; rw [bind_ok h]; simp only []; rw [bind_ok he, hz]; rfl
theorem eStar_lst {ma : M D} {mb : M (List D)} {xs ys : List D} (ha : ma ρ = .ok (.list xs) ρ1) (hb : mb ρ1 = .ok ys ρ2) : eStar ma mb ρ = .ok (xs ++ ys) ρ2 := by unfold eStar; rw [bind_ok ha]; simp only []; rw [bind_ok hb]; rfl
theorem eStar_tup {ma : M D} {mb : M (List D)} {xs ys : List D} (ha : ma ρ = .ok (.tuple xs) ρ1) (hb : mb ρ1 = .ok ys ρ2) : eStar ma mb ρ = .ok (xs ++ ys) ρ2 := by unfold eStar; rw [bind_ok ha]; simp only []; rw [bind_ok hb]; rfl
theorem iSeq_any {m : M D} {d : D} {xs : List D} (h : m ρ = .ok d ρ1) (hd : itD d = some xs) : iSeq m ρ = .ok xs ρ1 := by unfold iSeq; rw [bind_ok h, hd]; rfl
theorem mPick_any {is : List Nat} {m : M (List Arg)} {as bs : List Arg} (h : m ρ = .ok as ρ1) (hp : pick as is = bs) : mPick is m ρ = .ok bs ρ1 := by unfold mPick; rw [bind_ok h, hp]; rfl
theorem eApp_ok {a b : M (List Arg)} {xs ys : List Arg} (ha : a ρ = .ok xs ρ1) (hb : b ρ1 = .ok ys ρ2) : eApp a b ρ = .ok (xs ++ ys) ρ2 := by unfold eApp; rw [bind_ok ha, bind_ok hb]; rfl
theorem oRgL_ok {m : M (List D)} {xs : List D} (h : m ρ = .ok xs ρ1) : oRgL m ρ = .ok (.lst xs) ρ1 := by unfold oRgL; rw [bind_ok h]; rfl
theorem eRgT_ok {m : M (List D)} {xs : List D} (h : m ρ = .ok xs ρ1) : eRgT m ρ = .ok (.tuple xs) ρ1 := by unfold eRgT; rw [bind_ok h]; rfl
theorem rg1M_ok {ma : M D} {x : D} {xs : List D} (h : ma ρ = .ok x ρ1) (hx : rng1 [x] = some xs) : rg1M ma ρ = .ok xs ρ1 := by unfold rg1M; rw [bind_ok h, hx]; rfl
theorem rg2M_ok {ma mb : M D} {x y : D} {xs : List D} (h : ma ρ = .ok x ρ1) (h2 : mb ρ1 = .ok y ρ2) (hx : rng2 [x, y] = some xs) : rg2M ma mb ρ = .ok xs ρ2 := by unfold rg2M; rw [bind_ok h, bind_ok h2, hx]; rfl
theorem sParO_ok {i j : Nat} {ma : M D} {mo : M OC} {d : D} {c : OC} (ha : ma ρ = .ok d ρ1) (hb : mo ρ1 = .ok c ρ2) (hi : i < ρ2.length ∧ j < ρ2.length) : sParO i j ma mo ρ = .ok .next ((ρ2.set i (.fz d)).set j (.own c)) := by
  unfold sParO; rw [bind_ok ha, bind_ok hb]; exact if_pos hi
theorem sPar3_ok {i j l : Nat} {ma mb mc : M D} {d e f : D} (ha : ma ρ = .ok d ρ1) (hb : mb ρ1 = .ok e ρ2) (hc : mc ρ2 = .ok f ρ3) (hi : i < ρ3.length ∧ j < ρ3.length ∧ l < ρ3.length) : sPar3 i j l ma mb mc ρ = .ok .next (((ρ3.set i (.fz d)).set j (.fz e)).set l (.fz f)) := by
  unfold sPar3; rw [bind_ok ha, bind_ok hb, bind_ok hc]; exact if_pos hi
theorem sAsgG_ok {g : Tg} {m : M D} {d : D} (h : m ρ = .ok d ρ1) (hg : g.set d ρ1 = some ρ2) : sAsgG g m ρ = .ok .next ρ2 := by unfold sAsgG; rw [bind_ok h]; simp only [hg]
theorem eLenP_own {i : Nat} {ds : List D} (h : ρ[i]? = some (.own (.lst ds))) : eLenP i ρ = .ok (.int ds.length) ρ := by unfold eLenP onSlot slotL; simp only [h]; rfl
theorem eLenP_fz {i : Nat} {d z : D} (h : ρ[i]? = some (.fz d)) (hz : gLen [d] = some z) : eLenP i ρ = .ok z ρ := by unfold eLenP onSlot; simp only [h, hz]; rfl
theorem eCmpP_own {g : D → D → Option D} {i : Nat} {mb : M D} {ds : List D} {k z : D} (h : ρ[i]? = some (.own (.lst ds))) (hb : mb ρ = .ok k ρ1) (h1 : ρ1[i]? = some (.own (.lst ds))) (hg : g (.list ds) k = some z) : eCmpP g i mb ρ = .ok z ρ1 := by
  unfold eCmpP onSlot slotL; simp only [h]; rw [bind_ok hb]; simp only [h1, hg]; rfl
theorem eInP_own {g : D → D → Option D} {i : Nat} {ma : M D} {ds : List D} {k z : D} (ha : ma ρ = .ok k ρ1) (h1 : ρ1[i]? = some (.own (.lst ds))) (hg : g k (.list ds) = some z) : eInP g ma i ρ = .ok z ρ1 := by
  unfold eInP; rw [bind_ok ha]; unfold onSlot slotL; simp only [h1, hg]; rfl
theorem ePop_ok {i : Nat} {ds : List D} {d : D} (h : ρ[i]? = some (.own (.lst ds))) (hd : ds[ds.length - 1]? = some d) : ePop i ρ = .ok d (ρ.set i (.own (.lst ds.dropLast))) := by unfold ePop slotL; simp only [h, hd]
theorem ePop0_ok {i : Nat} {ds : List D} {d : D} (h : ρ[i]? = some (.own (.lst (d :: ds)))) : ePop0 i ρ = .ok d (ρ.set i (.own (.lst ds))) := by unfold ePop0 slotL; simp only [h]
theorem sExt_ok {i : Nat} {mb : M D} {ds es : List D} (h : ρ[i]? = some (.own (.lst ds))) (hb : mb ρ = .ok (.list es) ρ1) (h1 : ρ1[i]? = some (.own (.lst ds))) (hl : ds.length + es.length ≤ 16777216) : sExt i mb ρ = .ok .next (ρ1.set i (.own (.lst (ds ++ es)))) := by
  unfold sExt slotL; simp only [h]; rw [bind_ok hb]; simp only [h1, if_pos hl]; rfl
theorem sIf_b {c : M Bool} {a b : M Flw} {k : Bool} {r : Out Flw} (hc : c ρ = .ok k ρ1) (h : (if k then a ρ1 else b ρ1) = r) : sIf c a b ρ = r := by
  unfold sIf; rw [bind_ok hc]; cases k <;> exact h
/-! ### weakest readings, statement by statement -/
variable {Q : Flw → Rho → Prop} {a b c : M Flw}
theorem wp_set {i : Nat} {m : M D} {d : D} (h : m ρ = .ok d ρ1) (hi : i < ρ1.length) (k : Wp b (ρ1.set i (.fz d)) Q) : Wp (sSeq (sSet i m) b) ρ Q := wp_seq1 (sSet_ok h hi) k
theorem wp_setO {i : Nat} {m : M OC} {d : OC} (h : m ρ = .ok d ρ1) (hi : i < ρ1.length) (k : Wp b (ρ1.set i (.own d)) Q) : Wp (sSeq (sSetO i m) b) ρ Q := wp_seq1 (sSetO_ok h hi) k
theorem wp_ret {m : M D} {d : D} (h : m ρ = .ok d ρ1) (k : Q (.ret (.fz d)) ρ1) : Wp (sRet m) ρ Q := wp_ok (sRet_ok h) k
theorem wp_retO {m : M OC} {d : OC} (h : m ρ = .ok d ρ1) (k : Q (.ret (.own d)) ρ1) : Wp (sRetO m) ρ Q := wp_ok (sRetO_ok h) k
theorem wp_retV {i : Nat} {d : OC} (h : ρ[i]? = some (.own d)) (k : Q (.ret (.own d)) (ρ.set i .un)) : Wp (sRetV i) ρ Q := wp_ok (sRetV_ok h) k
theorem wp_next (k : Q .next ρ) : Wp sNext ρ Q := wp_ok rfl k
theorem wp_if {m : M Bool} {k : Bool} (h : m ρ = .ok k ρ1) (ht : k = true → Wp a ρ1 Q) (hf : k = false → Wp b ρ1 Q) : Wp (sIf m a b) ρ Q := by
  cases k with
  | true => obtain ⟨f, ρ2, e, q⟩ := ht rfl; exact ⟨f, ρ2, sIf_t h e, q⟩
  | false => obtain ⟨f, ρ2, e, q⟩ := hf rfl; exact ⟨f, ρ2, sIf_f h e, q⟩
theorem wp_mono {m : M α} {Q Q' : α → Rho → Prop} (h : Wp m ρ Q) (k : ∀ a ρ, Q a ρ → Q' a ρ) : Wp m ρ Q' := by
  obtain ⟨x, ρ2, e, q⟩ := h; exact ⟨x, ρ2, e, k _ _ q⟩
/-- a sequence of which the first part may return -/
theorem wp_seqR (h : Wp a ρ fun f ρ1 => (f = .next ∧ Wp b ρ1 Q) ∨ (∃ s, f = .ret s ∧ Q (.ret s) ρ1)) : Wp (sSeq a b) ρ Q := by
  obtain ⟨f, ρ1, e, h⟩ := h
  rcases h with ⟨rfl, f2, ρ2, e2, q⟩ | ⟨s, rfl, q⟩
  · exact ⟨f2, ρ2, sSeq_ok e e2, q⟩
  · exact ⟨_, ρ1, sSeq_ret e, q⟩
/-- a walk that may return: p says where -/
theorem forL_find {g : Tg} {b : M Flw} {J : Slot → Rho → Prop} (I : Nat → Rho → Prop) (p : Nat → Option Slot) : ∀ (ds : List D) (k0 : Nat) (ρ : Rho), I k0 ρ →
    (∀ k d ρ, ds[k]? = some d → I (k0 + k) ρ → ∃ ρ1, g.set d ρ = some ρ1 ∧ Wp b ρ1 fun f ρ2 => match p (k0 + k) with
      | none => (f = .next ∨ f = .cont) ∧ I (k0 + k + 1) ρ2
      | some s => f = .ret s ∧ J s ρ2) →
    Wp (forL g b ds) ρ fun f ρ2 => match (List.range' k0 ds.length).findSome? p with
      | none => f = .next ∧ I (k0 + ds.length) ρ2
      | some s => f = .ret s ∧ J s ρ2
  | [], k0, ρ, h, _ => ⟨_, _, rfl, rfl, h⟩
  | d :: ds, k0, ρ, h, st => by
    obtain ⟨ρ1, e1, f, ρ2, e2, h2⟩ := st 0 d ρ rfl (by simpa using h)
    rw [Nat.add_zero] at h2
    have er : List.range' k0 (d :: ds).length = k0 :: List.range' (k0 + 1) ds.length := by rw [List.length_cons, List.range'_succ]
    rw [er, List.findSome?_cons]
    cases hp : p k0 with
    | some s =>
      rw [hp] at h2
      obtain ⟨rfl, q⟩ := h2
      refine ⟨.ret s, ρ2, ?_, rfl, q⟩
      unfold forL; simp only [e1, e2]
    | none =>
      rw [hp] at h2
      obtain ⟨hf, q⟩ := h2
      obtain ⟨f', ρ3, e3, q3⟩ := forL_find I p ds (k0 + 1) ρ2 q fun k d' ρ hk hi => by
        have := st (k + 1) d' ρ (by simpa using hk) (by rw [show k0 + (k + 1) = k0 + 1 + k by omega]; exact hi)
        rwa [show k0 + (k + 1) = k0 + 1 + k by omega] at this
      refine ⟨f', ρ3, ?_, ?_⟩
      · unfold forL; simp only [e1]
        rcases hf with rfl | rfl <;> simp only [e2] <;> exact e3
      · rw [show k0 + (d :: ds).length = k0 + 1 + ds.length by rw [List.length_cons]; omega]; exact q3
theorem wp_find {mi : M (List D)} {g : Tg} {b : M Flw} {ds : List D} {J : Slot → Rho → Prop} {Q : Flw → Rho → Prop} (I : Nat → Rho → Prop) (p : Nat → Option Slot) (hm : mi ρ = .ok ds ρ1) (h0 : I 0 ρ1)
    (st : ∀ k d ρ, ds[k]? = some d → I k ρ → ∃ ρ1, g.set d ρ = some ρ1 ∧ Wp b ρ1 fun f ρ2 => match p k with
      | none => (f = .next ∨ f = .cont) ∧ I (k + 1) ρ2
      | some s => f = .ret s ∧ J s ρ2)
    (q : ∀ f ρ2, (match (List.range ds.length).findSome? p with
      | none => f = .next ∧ I ds.length ρ2
      | some s => f = .ret s ∧ J s ρ2) → Q f ρ2) : Wp (sFor mi g b) ρ Q := by
  obtain ⟨f, ρ2, e, h⟩ := forL_find (g := g) (b := b) (J := J) I p ds 0 ρ1 h0 fun k d ρ hk hi => by
    simpa only [Nat.zero_add] using st k d ρ hk (by simpa only [Nat.zero_add] using hi)
  refine ⟨f, ρ2, (bind_ok hm).trans e, q f ρ2 ?_⟩
  rw [Nat.zero_add] at h
  rw [List.range_eq_range']; exact h
end
/-! ### data -/
theorem gLen_tup {xs : List D} : gLen [.tuple xs] = some (.int xs.length) := rfl
theorem gLen_lst {xs : List D} : gLen [.list xs] = some (.int xs.length) := rfl
theorem gIx_tup {ds : List D} {i : Int} {n : Nat} {d : D} (hi : i = n) (h : ds[n]? = some d) : gIx (.tuple ds) (.int i) = some d := gIx_at (ds := ds) hi h
theorem gAdd_tup {xs ys : List D} (h : xs.length + ys.length ≤ 16777216) : gAdd (.tuple xs) (.tuple ys) = some (.tuple (xs ++ ys)) := by
  show (if _ then _ else _) = _; rw [if_pos h]
theorem gAdd_lst {xs ys : List D} (h : xs.length + ys.length ≤ 16777216) : gAdd (.list xs) (.list ys) = some (.list (xs ++ ys)) := by
  show (if _ then _ else _) = _; rw [if_pos h]
theorem sIx_nat {n d : Nat} {k : Int} {m : Nat} (h : k = m) : HT.sIx n d (some k) = min m n := by
  subst h; simp only [HT.sIx]; first | (split <;> omega) | omega | simp
theorem gSl_to {xs : List D} {k : Int} {m : Nat} (h : k = m) : gSl (.tuple xs) none (some k) = some (.tuple (xs.take m)) := by
  show some (PyData.tuple (cutL xs none (some k))) = _
  unfold cutL
  rw [sIx_nat h]
  congr 2
  simp only [HT.sIx, List.drop_zero, Nat.sub_zero]
  rcases Nat.le_total m xs.length with q | q
  · rw [Nat.min_eq_left q]
  · rw [Nat.min_eq_right q, List.take_length, List.take_of_length_le q]
theorem gSl_from {xs : List D} {k : Int} {m : Nat} (h : k = m) : gSl (.tuple xs) (some k) none = some (.tuple (xs.drop m)) := by
  show some (PyData.tuple (cutL xs (some k) none)) = _
  unfold cutL
  rw [sIx_nat h]
  congr 2
  simp only [HT.sIx]
  rw [List.take_of_length_le (by rw [List.length_drop]; omega)]
  rcases Nat.le_total m xs.length with q | q
  · rw [Nat.min_eq_left q]
  · rw [Nat.min_eq_right q, List.drop_length, List.drop_eq_nil_of_le q]
theorem gEqX_int {a b : Int} : gEqX (.int a) (.int b) = some (.bool (decide (a = b))) := by
  simp [gEqX, gEq, SeqAt.shaped, PyData.canLay0, PyData.depth, PyData.eqv]
  cases h : a == b <;> simp_all
theorem gNeX_int {a b : Int} : gNeX (.int a) (.int b) = some (.bool (!decide (a = b))) := by
  simp [gNeX, gNe, SeqAt.shaped, PyData.canLay0, PyData.depth, PyData.eqv]
  cases h : a == b <;> simp_all
theorem gEqX_tup0 {xs : List D} : gEqX (.tuple xs) (.tuple []) = some (.bool xs.isEmpty) := by
  cases xs with
  | nil => rfl
  | cons x r =>
    unfold gEqX gEq
    split
    · rename_i z h
      split at h
      · cases h; simp [PyData.eqv, PyData.eqvAll]
      · cases h
    · rfl
theorem gNeX_lst0 {xs : List D} : gNeX (.list xs) (.list []) = some (.bool !xs.isEmpty) := by
  cases xs with
  | nil => rfl
  | cons x r =>
    unfold gNeX gNe
    split
    · rename_i z h
      split at h
      · cases h; simp [PyData.eqv, PyData.eqvAll]
      · cases h
    · simp [lenE]
theorem gMinL {xs : List D} {x : Int} {r : List Int} (h : xs = (x :: r).map PyData.int) : gMin [.list xs] = some (.int (r.foldl (fun a b => if b < a then b else a) x)) := by
  subst h
  show (intsOf _).bind _ = _
  rw [intsOf_map]; rfl
theorem gMaxL {xs : List D} {x : Int} {r : List Int} (h : xs = (x :: r).map PyData.int) : gMax [.list xs] = some (.int (r.foldl (fun a b => if b > a then b else a) x)) := by
  subst h
  show (intsOf _).bind _ = _
  rw [intsOf_map]; rfl
theorem gSortI_ints {l : List Int} : gSortI [.list (l.map .int)] = some (.list ((sortI l).map .int)) := by
  unfold gSortI; simp only [intsOf_map, Option.map_some]
theorem gCount_ints {l : List Int} {k : Int} : gCount (.list (l.map .int)) (.int k) = some (.int (l.count k : Nat)) := by
  unfold gCount; simp only [intsOf_map, Option.map_some]
theorem gTuple_lst {xs : List D} : gTuple [.list xs] = some (.tuple xs) := rfl
theorem blsMap {α : Type} {l : List α} {f : α → Bool} : gAll [.list (l.map fun x => PyData.bool (f x))] = some (.bool (l.all f)) := by
  show (blsOf _).map _ = _
  rw [show (l.map fun x => PyData.bool (f x)) = (l.map f).map PyData.bool by simp, blsOf_map]
  simp [Function.comp_def]
theorem blsAny {α : Type} {l : List α} {f : α → Bool} : gAny [.list (l.map fun x => PyData.bool (f x))] = some (.bool (l.any f)) := by
  show (blsOf _).map _ = _
  rw [show (l.map fun x => PyData.bool (f x)) = (l.map f).map PyData.bool by simp, blsOf_map]
  simp [Function.comp_def]
theorem gMulS1 {i j : Int} (h : i.natAbs < 2 ^ 64) : gMul (.int i) (.int j) = some (.int (i * j)) := by
  show (if okMul i j then _ else _) = _
  rw [if_pos (by simp [okMul, h])]
theorem gMulS2 {i j : Int} (h : j.natAbs < 2 ^ 64) : gMul (.int i) (.int j) = some (.int (i * j)) := by
  show (if okMul i j then _ else _) = _
  rw [if_pos (by simp [okMul, h])]
theorem gFdivL {i j : Int} (h : 0 < j) (hj : j < 10 ^ 60) : gFdiv (.int i) (.int j) = some (.int (i / j)) := by
  show (if _ then _ else _) = _
  rw [if_pos]
  have : j.natAbs.log2 < 250 := (Nat.log2_lt (by omega)).mpr (natAbs250 (by omega) hj)
  exact decide_eq_true ⟨h, by omega⟩
end DL

/-! DLu: own exceptions: raise, try .. except, isinstance of a handled one. -/
namespace DL
open PySem PySem.Spec L2
/-- what is known of an own exception class without an own __init__ -/
structure XCls (K : PySem.W.Frag) (mg : Str → Option Value) (x : Str) (C : Addr) : Prop where
  g : mg x = some (.ref C)
  ex : PySem.W.excIn K C [.type "ValueError", .type "Exception", .type "BaseException", .type "object"] "ValueError.__new__" = true
  kp : PySem.W.keepIn K (.ref C) = true
  sb : PySem.W.subIn K (.ref C) (.type "BaseException") = some true
  ty : PySem.W.typeIn K (.ref C) = some (.type "type")
def sRaise (x : Str) : M Flw := fun ρ => .err ⟨x, []⟩ ρ
section
variable {X : Cx} {Γ : Gm} {W : WX} {P : List Nat}
theorem pmk_bare {x : Str} {p pos : Pos} {C : Addr} (T : XCls X.K X.mg x C) (glo : Gl X x) (nodbg : (x == ("__debug__" : Str)) = false := by decide) :
    L2N.PMk X (.Call (.Name x p) [] [] pos) (fun _ H Q => Q (.ref C) none H) := by
  intro pins s σ H Q J hq
  refine wpAny_Call_Name_kw (ld_glob J glo T.g ?_ nodbg)
  refine PySem.W.callWith_K0 J.kIn T.kp ?_
  obtain ⟨bm, nsA, nm, qn, bs, hasD, sn, sub, ab, col, dd, k0, k1, k2, k3, k5, nsM, gotC, gotN, noInit, tail⟩ := exc_obj J.kIn T.ex
  refine wpAny_call_exc_subT PySem.F.excBase_ValueError tail gotC gotN noInit (fun h' e made => ?_) (Nat.zero_le _)
  exact L2N.mk_of J made (raises_own T.sb T.ty) hq (J.hok.gone made.new)
theorem ds_raise {x : Str} {p pos pos' : Pos} {C : Addr} (calm : X.calm = true) (tk : L2N.Takes X W) (T : XCls X.K X.mg x C) (glo : Gl X x) (hΓ : Γ = ⟨X.K, X.mg⟩ := by rfl) (nodbg : (x == ("__debug__" : Str)) = false := by decide) :
    PS X (.Raise (some (.Call (.Name x p) [] [] pos)) none pos') (tS Γ W P (sRaise x)) := by
  subst hΓ
  refine PS.imp (L2N.ps_raise calm tk (pmk_bare T glo nodbg)) fun D σ H ⟨G, ρ, s, h⟩ => ?_
  exact h (.ref C) none σ G H (Stp.rfl s) (fun _ _ => rfl) ⟨C, T.g, rfl, .inl ⟨rfl, rfl⟩⟩
end
/-! ### slots and handled exceptions -/
theorem SR.setX {K : PySem.W.Frag} {G H : Hp} {σ : St} {ρ : Rho} (s : SR K G H σ ρ) {i : Nat} (hi : i < ρ.length) (a : Addr) : Stp K G H σ ρ G H (σ.set i (some (.ref a))) (ρ.set i (.ex a)) := by
  have back : ∀ j b, OwnAt (σ.set i (some (.ref a))) (ρ.set i (.ex a)) j b → OwnAt σ ρ j b := fun j b ⟨c, e1, e2⟩ => by
    by_cases q : i = j
    · subst q
      rw [List.getElem?_set_self hi] at e1; cases e1
    · rw [List.getElem?_set_ne q] at e1 e2
      exact ⟨c, e1, e2⟩
  refine ⟨⟨s.sub, by rw [List.length_set, List.length_set]; exact s.len, fun j t e => ?_, fun j k b x y => s.sep j k b (back j b x) (back k b y)⟩, Fr.rfl, fun b ⟨j, x⟩ => .inl ⟨j, back j b x⟩⟩
  by_cases q : i = j
  · subst q
    rw [List.getElem?_set_self hi] at e
    cases e
    show (σ.set i (some (V.ref a)))[i]? = _
    rw [List.getElem?_set_self (by rw [s.len]; exact hi)]
  · rw [List.getElem?_set_ne q] at e ⊢
    exact s.ok j t e
theorem SR.setU {K : PySem.W.Frag} {G H : Hp} {σ : St} {ρ : Rho} (s : SR K G H σ ρ) (i : Nat) (o : Option V) (no : ∀ c, ρ[i]? ≠ some (.own c)) : Stp K G H σ ρ G H (σ.set i o) (ρ.set i .un) := by
  have back : ∀ j b, OwnAt (σ.set i o) (ρ.set i .un) j b → OwnAt σ ρ j b := fun j b ⟨c, e1, e2⟩ => by
    by_cases q : i = j
    · subst q
      rw [List.getElem?_set] at e1
      split at e1
      · split at e1 <;> cases e1
      · contradiction
    · rw [List.getElem?_set_ne q] at e1 e2
      exact ⟨c, e1, e2⟩
  refine ⟨⟨s.sub, by rw [List.length_set, List.length_set]; exact s.len, fun j t e => ?_, fun j k b x y => s.sep j k b (back j b x) (back k b y)⟩, Fr.rfl, fun b ⟨j, x⟩ => .inl ⟨j, back j b x⟩⟩
  by_cases q : i = j
  · subst q
    rw [List.getElem?_set] at e
    split at e
    · split at e
      · cases e; trivial
      · cases e
    · contradiction
  · rw [List.getElem?_set_ne q] at e ⊢
    exact s.ok j t e
/-- which exceptions a suite may ask about -/
def ExcN (Γ : Gm) (e : Exc) (cls : Value) (dx : Option Addr) : Prop := ∃ C, Γ.mg e.cls = some (.ref C) ∧ cls = .ref C ∧ (e.args = [] → dx = none)
theorem ExcOk.n {Γ : Gm} {G : Hp} {e : Exc} {cls : Value} {dx : Option Addr} (h : ExcOk Γ G e cls dx) : ExcN Γ e cls dx := by
  obtain ⟨C, h1, h2, h3⟩ := h
  refine ⟨C, h1, h2, fun z => ?_⟩
  rcases h3 with ⟨_, q⟩ | ⟨q, _⟩
  · exact q
  · exact absurd z q
/-- the suite ends alike, wherever the exception stands -/
def AllOk (i : Nat) (f : Addr → Out Flw) (o : Flw) (ρ : Rho) : Prop := ∀ a, ∃ ρ', f a = .ok o ρ' ∧ ρ'.set i .un = ρ ∧ ∀ c, ρ'[i]? ≠ some (.own c)
open Classical in
noncomputable def outAll (i : Nat) (f : Addr → Out Flw) : Out Flw := if h : ∃ p : Flw × Rho, AllOk i f p.1 p.2 then .ok (Classical.choose h).1 (Classical.choose h).2 else .bad
theorem outAll_ok {i : Nat} {f : Addr → Out Flw} {o : Flw} {ρ : Rho} (h : AllOk i f o ρ) : outAll i f = .ok o ρ := by
  have ex : ∃ p : Flw × Rho, AllOk i f p.1 p.2 := ⟨(o, ρ), h⟩
  unfold outAll
  rw [dif_pos ex]
  have hs := Classical.choose_spec ex
  obtain ⟨r1, e1, e2, _⟩ := h 0
  obtain ⟨r2, f1, f2, _⟩ := hs 0
  rw [e1] at f1
  injection f1 with g1 g2
  rw [← g1, ← f2, ← g2, e2]
noncomputable def sTry (mb : M Flw) (i : Nat) (ct : Exc → Option Bool) (ms : Addr → Exc → M Flw) : M Flw := fun ρ => match mb ρ with
  | .err e ρ1 => match ct e with
    | some true => if i < ρ1.length then outAll i fun a => ms a e (ρ1.set i (.ex a)) else .bad
    | some false => .err e ρ1
    | none => .bad
  | .ok f ρ1 => .ok f ρ1
  | .bad => .bad
section
variable {X : Cx} {Γ : Gm} {W : WX} {P : List Nat} {x n : Str} {c : Value} {i : Nat} {body suite : List Stmt} {b0 : Stmt} {np pos pos' : Pos} {mb : M Flw} {ms : Addr → Exc → M Flw} {ct : Exc → Option Bool}
theorem FlwOk.map {K : PySem.W.Frag} {G H G1 H1 : Hp} {σ σ1 : St} {ρ ρ1 : Rho} {D : Ends} {i : Nat} {f : Flw} {G' H' : Hp} {σ' : St} {ρ' : Rho} (x : Stp K G H σ ρ G1 H1 σ1 ρ1)
    (h : FlwOk K G H σ ρ G' H' (σ'.set i none) (ρ'.set i .un) D f) (no : ∀ c, ρ'[i]? ≠ some (.own c)) (hr : ∀ v r, RvOk K G1 H1 σ1 ρ1 G' H' σ' ρ' v r → RvOk K G H σ ρ G' H' (σ'.set i none) (ρ'.set i .un) v r) :
    FlwOk K G1 H1 σ1 ρ1 G' H' σ' ρ' { nx := fun σ' H' => D.nx (σ'.set i none) H', rt := D.rt, bk := fun σ' H' => D.bk (σ'.set i none) H', ct := fun σ' H' => D.ct (σ'.set i none) H' } f := by
  cases f with
  | next => exact h
  | brk => exact h
  | cont => exact h
  | ret r => exact fun v q => h v (hr v r q)
/-- try: .. except x as n: .. -/
theorem ds_try (stk : X.stack = X.env :: X.outer) (frm : X.env.frame = some X.env.locals) (nd : X.N.Nodup) (at_ : X.N[i]? = some n) (loc : X.env.kindOf n = some .local) (nm : Names X x c) (tk : L2N.Takes X W)
    (hb : ∀ (W' : WX) (pn : List (Addr × Obj)) (xe : Value → Shared → Prop), L2N.Takes (X.tr pn xe) W' → PassesOwn (model X.prog X.w) X.A X.env xe → PSs (X.tr pn xe) body (tS Γ W' P mb))
    (hs : ∀ (a : Addr) (oe : Obj) (cls : Value) (d : Option Addr) (pn : List (Addr × Obj)) (e : Exc), L2N.Zn cls d oe → (∃ vs, oe.data = .fields vs) → ExcN Γ e cls d → PSs (X.suite a ((a, oe) :: pn)) (b0 :: suite) (tS Γ WF P (ms a e)))
    (hct : ∀ e cls d k, ExcN Γ e cls d → ct e = some k → PySem.W.exmOne X.K cls c = some k) (hp : i ∉ P) :
    PS X (.Try body [.ExceptHandler (some (.Name x np)) (some n) (b0 :: suite) pos'] [] [] pos) (tS Γ W P (sTry mb i ct ms)) := by
  refine PS.imp (L2N.ps_try_as (tb := fun W' => tS Γ W' P mb) (ts := fun a cls d D σ H => ∃ e, ExcN Γ e cls d ∧ tS Γ WF P (ms a e) D σ H) stk frm nd at_ loc nm tk hb
    (fun a oe cls d pn hz hf => ⟨fun pins s σ H D I ⟨e, he, h⟩ => (hs a oe cls d pn e hz hf he).run pins s σ H D I h⟩)) fun D σ H ⟨G, ρ, s, h⟩ => ⟨G, ρ, s, ?_⟩
  unfold sTry at h
  cases hm : mb ρ with
  | bad => rw [hm] at h; exact h.elim
  | ok f ρ1 => rw [hm] at h; exact h
  | err e ρ1 =>
    simp only [hm] at h
    intro cls dx σ' G' H' x1 k1 ex
    cases hc : ct e with
    | none => simp only [hc] at h; exact h.elim
    | some k =>
      refine ⟨k, hct e cls dx k ex.n hc, fun z a na => ?_, fun z => ?_⟩
      · subst z
        simp only [hc] at h
        split at h
        · rename_i hi
          unfold outAll at h
          split at h
          · rename_i hex
            have hall := Classical.choose_spec hex
            obtain ⟨ρ', e1, e2, e3⟩ := hall a
            refine ⟨e, ex.n, G', _, (x1.sr.setX hi a).sr, ?_⟩
            show Out.Post (ms a e (ρ1.set i (.ex a))) _ _
            have e1 : ms a e (ρ1.set i (.ex a)) = _ := e1
            rw [e1]
            intro σ2 G2 H2 x2 k2
            have xs := x1.tr ((x1.sr.setX hi a).tr x2)
            have x3 := x2.sr.setU i none e3
            have h' := h (σ2.set i none) G2 H2 (by rw [← e2]; exact xs.tr x3) fun j hj => by
              have hji : i ≠ j := fun w => hp (w ▸ hj)
              rw [List.getElem?_set_ne hji, k2 j hj, List.getElem?_set_ne hji]
              exact k1 j hj
            rw [← e2] at h'
            refine FlwOk.map ((x1.tr (x1.sr.setX hi a))) h' e3 fun v r q => ?_
            have q1 := RvOk.tr (x1.tr (x1.sr.setX hi a)) q
            cases r with
            | un => exact q1
            | ex _ => exact q1
            | fz d => exact q1
            | own c =>
              obtain ⟨b, u, w1, w2, w3, w4, w5, w6⟩ := q1
              exact ⟨b, u, w1, w2, w3, w4, fun ⟨j, y⟩ => w5 ⟨j, by
                obtain ⟨c', y1, y2⟩ := y
                by_cases q : i = j
                · subst q
                  rw [List.getElem?_set] at y1
                  split at y1
                  · split at y1 <;> cases y1
                  · contradiction
                · rw [List.getElem?_set_ne q] at y1 y2
                  exact ⟨c', y1, y2⟩⟩, w6⟩
          · exact h.elim
        · exact h.elim
      · subst z
        simp only [hc] at h
        exact h cls dx σ' G' H' x1 k1 ex
end
/-! ### isinstance of a handled exception -/
/-- what is known of the class of a handled exception -/
structure XIs (K : PySem.W.Frag) (D : Addr) (c : Value) (b : Bool) : Prop where
  ic : ExcC K D
  kit : PySem.W.kitOne K (.ref D) c = some b
theorem call_isX {X : Cx} {a D : Addr} {oe : Obj} (C : ExcC X.K D) (zc : Zc (.ref D) none oe) (fl : ∃ vs, oe.data = .fields vs) (hp : (a, oe) ∈ X.pn) : CallR X (.builtin "isinstance") (rIsE X.K D a) := by
  intro pins s σ H xs us Q I r h
  obtain ⟨t, tv, b, e0, ht, hk, q⟩ := h
  subst e0
  obtain ⟨u, w, e1, ru, rw'⟩ : ∃ u w, us = [u, w] ∧ RelV (.ref a) u ∧ RelV t w := by
    cases r with
    | cons r1 r2 => cases r2 with | cons r2 r3 => cases r3; exact ⟨_, _, rfl, r1, r2⟩
  subst e1
  have e2 := ht w rw'
  subst e2
  cases ru
  have got := (I.pin (a, oe) (List.mem_append_left _ hp)).1
  obtain ⟨vs, hv⟩ := fl
  have inst : PySem.W.InstAt s.heap a oe D none := by
    cases oe with
    | mk oc oda od osl =>
      have z1 : oc = .ref D := zc.1
      have z2 : oda = none := zc.2
      have z3 : od = .fields vs := hv
      subst z1 z2 z3
      exact ⟨got, rfl, rfl, trivial⟩
  exact PySem.W.kia_one (PySem.W.handS_kitx_exc C.hg C.hk C.hs C.hd C.ha C.hn C.ht C.hm) I.kIn inst hk (fun z => nomatch z) fun tk => ⟨.bl b, H, I.kept (t' := tk) fun _ _ z => z, rfl, q⟩
/-- isinstance(n, C), slot i being n -/
def eIsX (a : Addr) (i : Nat) (b : Option Bool) : M D := fun ρ => match ρ[i]? with
  | some (.ex a') => match b with
    | some b => if a' = a then .ok (.bool b) ρ else .bad
    | none => .bad
  | _ => .bad
end DL

/-! DLv: defs with a star parameter; sizes of sets; isinstance of several types; xs.pop(i). -/
namespace DL
open PySem PySem.Spec L2
open PyProof.Rows (envOfC)

/-! ### def f(a, .., *v), called by place -/
theorem prd_take {α β : Type} {R : α → β → Prop} {l : List α} {m : List β} (h : Paired R l m) : ∀ n : Nat, Paired R (l.take n) (m.take n) := by
  induction h with
  | nil => intro n; simp; exact .nil
  | cons r t ih =>
    intro n
    cases n with
    | zero => exact .nil
    | succ n => exact .cons r (ih n)
theorem prd_drop {α β : Type} {R : α → β → Prop} {l : List α} {m : List β} (h : Paired R l m) : ∀ n : Nat, Paired R (l.drop n) (m.drop n) := by
  induction h with
  | nil => intro n; simp; exact .nil
  | cons r t ih =>
    intro n
    cases n with
    | zero => exact .cons r t
    | succ n => exact ih n
def fzs : Rho → Option (List D)
  | [] => some []
  | .fz d :: r => (fzs r).map (d :: ·)
  | _ => none
theorem fzs_map : ∀ {ss : Rho} {ds : List D}, fzs ss = some ds → ss = ds.map Slot.fz
  | [], _, h => by cases h; rfl
  | .fz d :: r, ds, h => by
    unfold fzs at h
    cases q : fzs r with
    | none => rw [q] at h; cases h
    | some es => rw [q] at h; cases h; rw [fzs_map q]; rfl
  | .un :: _, _, h => by cases h
  | .own _ :: _, _, h => by cases h
  | .ex _ :: _, _, h => by cases h
/-- np parameters, and what is left over as a tuple; n arguments in all -/
def starM (np n : Nat) (F : M Slot) : M Slot := fun ss => match fzs ss with
  | some ds => if ds.length = n ∧ np ≤ n then match F ((ds.take np ++ [PyData.tuple (ds.drop np)]).map Slot.fz) with
      | .ok r _ => .ok r ss
      | .err c _ => .err c ss
      | .bad => .bad
    else .bad
  | none => .bad
theorem starM_len {np n : Nat} {F : M Slot} (ss : Rho) (h : (∃ r ss', starM np n F ss = .ok r ss') ∨ (∃ c ss', starM np n F ss = .err c ss')) : ss.length = n := by
  unfold starM at h
  cases q : fzs ss with
  | none => rw [q] at h; rcases h with ⟨_, _, z⟩ | ⟨_, _, z⟩ <;> cases z
  | some ds =>
    simp only [q] at h
    by_cases c : ds.length = n ∧ np ≤ n
    · rw [fzs_map q, List.length_map]; exact c.1
    · simp only [if_neg c] at h; rcases h with ⟨_, _, z⟩ | ⟨_, _, z⟩ <;> cases z
theorem no_own {vs : List V} {ds : List D} {a : Addr} : ¬ Ow (vs.map some) (ds.map Slot.fz) a := fun ⟨i, c, e, _⟩ => by
  rw [List.getElem?_map] at e
  cases q : ds[i]? with
  | none => rw [q] at e; cases e
  | some d => rw [q] at e; cases e
theorem sr_fz {K : PySem.W.Frag} {G H : Hp} {vs : List V} {ds : List D} (s : Sub G H) (r : RpAll K G vs ds) : SR K G H (vs.map some) (ds.map Slot.fz) := by
  refine ⟨s, by rw [List.length_map, List.length_map]; exact r.length, fun i t e => ?_, fun i j a x => (no_own ⟨i, x⟩).elim⟩
  rw [List.getElem?_map] at e ⊢
  cases q : ds[i]? with
  | none => rw [q] at e; cases e
  | some d =>
    rw [q] at e
    cases e
    obtain ⟨v, e1, e2⟩ := r.getD q
    exact ⟨v, by rw [e1]; rfl, e2⟩
theorem sr_unfz {K : PySem.W.Frag} {G H : Hp} : ∀ {ds : List D} {vs : List V}, SR K G H (vs.map some) (ds.map Slot.fz) → RpAll K G vs ds := by
  intro ds
  induction ds with
  | nil =>
    intro vs s
    have := s.len
    rw [List.length_map, List.length_map] at this
    cases vs with
    | nil => exact .nil
    | cons _ _ => simp at this
  | cons d ds ih =>
    intro vs s
    have hl := s.len
    rw [List.length_map, List.length_map] at hl
    cases vs with
    | nil => simp at hl
    | cons v vs =>
      obtain ⟨w, e1, e2⟩ := s.ok 0 (.fz d) rfl
      simp at e1
      subst e1
      refine .cons e2 (ih ⟨s.sub, by rw [List.length_map, List.length_map]; simpa using hl, fun i t e => ?_, fun i j a x => (no_own ⟨i, x⟩).elim⟩)
      have := s.ok (i + 1) t (by simpa using e)
      simpa using this
theorem fn_starD {P : Program} {w : World} {K : PySem.W.Frag} {mg : Str → Option Value} {base : Heap} {k : Nat} {f : Addr} {x qual pv : Str} {st : Stmt} {fd : FuncData} {N ps : List Str} {b : M Flw} {n np NL : Nat} (F : Fun K x qual st f fd) (S : FnScope N (ps ++ [pv]) (defScope st)) (hnp : np = ps.length) (hNL : N.length = NL) (hz : n ≤ 1000)
    (hb : ∀ us rest : List Value, us.length = ps.length → bindArgs fd ⟨us ++ rest, []⟩ = (newTuple rest >>= fun t => pure (ps.zip us ++ [(pv, t)])))
    (hbody : ∀ (cdv : Value) (A : Around) (outer : List Env) (s : Shared) (H : Hp) (E : XK), Room k (A.deeper (envOfC qual (defScope st) s.heap.objs.size f cdv)) → (A.deeper (envOfC qual (defScope st) s.heap.objs.size f cdv)).guards = some [] →
      PSs (cxOf (L2N.CX P w) P w K mg base N qual (defScope st) f cdv A outer s H E) (defBody st) (tS ⟨K, mg⟩ (fun cls dx _ H' => E cls dx H') [] b)) :
    FnX P w K mg base (k + 1) f n (starM np n (fnP [] (np + 1) NL b)) := by
  subst hnp hNL
  refine ⟨starM_len, fun A outer s H us vs Q E hr hgd e0 hl rv ⟨G, ss, sr, post⟩ => ?_⟩
  obtain ⟨oc, od, kV, doc, pm, an, cdv, ct, osl, rfl, lk, hcd⟩ := F.ex
  unfold starM PostF at post
  cases q : fzs ss with
  | none => simp only [q] at post; exact post.elim
  | some ds =>
    simp only [q] at post
    by_cases c : ds.length = n ∧ ps.length ≤ n
    · simp only [if_pos c] at post
      have es := fzs_map q
      subst es
      have rp := sr_unfz sr
      have hvl : vs.length = n := by rw [rp.length]; exact c.1
      have hpl : (ps ++ [pv]).length ≤ N.length := by have := congrArg List.length S.pre; rw [List.length_take] at this; omega
      have hu1 : (us.take ps.length).length = ps.length := by rw [List.length_take]; omega
      have eus : us = us.take ps.length ++ us.drop ps.length := (List.take_append_drop _ _).symm
      have evs : vs = vs.take ps.length ++ vs.drop ps.length := (List.take_append_drop _ _).symm
      have rv1 : Vals (vs.take ps.length) (us.take ps.length) := prd_take rv _
      have rv2 : Vals (vs.drop ps.length) (us.drop ps.length) := prd_drop rv _
      rw [eus]
      have hn : H s.heap.objs.size = none := e0.hok.fresh (Nat.le_refl _)
      have hsz : (us.drop ps.length).length ≤ sizeLine := by rw [List.length_drop, sizeLine_eq]; omega
      refine StX.run_bnd (ps := ps ++ [pv]) lk hcd S hr e0 (G := fun xs H2 => ∃ p, H p = none ∧ xs = vs.take ps.length ++ [V.ref p] ∧ H2 = upd H p (.tup (vs.drop ps.length))) (fun A' Ex Q' hh => ?_) fun s2 H2 xs ⟨p, hp, ex, eH⟩ hr' => ?_
      · rw [hb _ _ hu1]
        refine wpAny_bind (wpAny_newTuple (wpAny_pure ?_) hsz)
        have laid : ObjOk P w (upd H s.heap.objs.size (.tup (vs.drop ps.length))) (s.heap.push ({ cls := .type "tuple", data := .seq (us.drop ps.length).toArray } : Obj)) s.heap.objs.size (.tup (vs.drop ps.length)) :=
          ⟨by rw [rv2.length]; exact hsz, us.drop ps.length, rv2, ⟨_, Heap.get?_push_size _ rfl, rfl, _, rfl⟩⟩
        have unL := StX.un_laid (fs := frs outer) (s := s) (o := ({ cls := .type "tuple", data := .seq (us.drop ps.length).toArray } : Obj)) (u := .tup (vs.drop ps.length)) hn
        have got := hh _ _ (vs.take ps.length ++ [V.ref s.heap.objs.size]) (us.take ps.length ++ [Value.ref s.heap.objs.size]) (StX.env0_laid e0 laid) unL rfl (fun e s' => cxUpN outer s H _ _ E e s' unL (fun b o z => Heap.get?_push_of_some _ z) rfl)
          (rv1.append (.cons rfl .nil)) (by rw [List.length_append, List.length_append, List.length_take]; simp; omega) ⟨_, hn, rfl, rfl⟩
        rw [List.zip_append hu1.symm] at got
        exact got
      · subst ex eH
        refine ⟨_, hbody cdv A outer s2 _ E hr' (by rw [guards_deeper]; exact hgd), ?_⟩
        have ext := Ext0.new (o := .tup (vs.drop ps.length)) sr.sub hp
        have rp2 : RpAll K (upd G p (.tup (vs.drop ps.length))) (vs.take ps.length ++ [V.ref p]) (ds.take ps.length ++ [PyData.tuple (ds.drop ps.length)]) :=
          ((rp.take _).mono ext.g).append (.cons (.tup upd_same ((rp.drop _).mono ext.g)) .nil)
        have sr2 := sr_fz (H := upd H p (.tup (vs.drop ps.length))) ext.gh rp2
        refine body_main (n := ps.length + 1) sr2 (by rw [List.length_append, List.length_take]; simp; omega) (by rw [List.length_append, List.length_take]; simp at hpl ⊢; omega) ?_ ?_
        · unfold fnP at post
          by_cases hO : ownIn [] ((ds.take ps.length ++ [PyData.tuple (ds.drop ps.length)]).map Slot.fz) = true
          · exact hO
          · simp only [if_neg hO] at post; exact post.elim
        · unfold fnP at post
          by_cases hO : ownIn [] ((ds.take ps.length ++ [PyData.tuple (ds.drop ps.length)]).map Slot.fz) = true
          · simp only [if_pos hO] at post
            have back : ∀ {G' H' : Hp} {ss' : Rho}, Stp K (upd G p (.tup (vs.drop ps.length))) (upd H p (.tup (vs.drop ps.length))) ((vs.take ps.length ++ [V.ref p]).map some) ((ds.take ps.length ++ [PyData.tuple (ds.drop ps.length)]).map Slot.fz) G' H' ((vs.take ps.length ++ [V.ref p]).map some) ss' →
                Stp K G H (vs.map some) (ds.map Slot.fz) G' H' (vs.map some) (ds.map Slot.fz) := fun {G' H' ss'} y => by
              refine ⟨sr_fz y.sr.sub (rp.mono (ext.g.tr y.fr.ext)), ⟨ext.g.tr y.fr.ext, fun a o e nl => y.fr.keep a o (ext.h a o e) no_own, fun a o e g nl => y.fr.nog a o (ext.h a o e) (ext.n a o e g) no_own⟩, fun a z => (no_own z).elim⟩
            unfold PostF
            cases hF : fnM (ps.length + 1) N.length b ((ds.take ps.length ++ [PyData.tuple (ds.drop ps.length)]).map Slot.fz) with
            | bad => rw [hF] at post; exact post.elim
            | err e ss' =>
              rw [hF] at post
              exact fun cls dx G' H' y ok => post cls dx G' H' (back y) ok
            | ok r ss' =>
              rw [hF] at post
              intro v G' H' y hv
              refine post v G' H' (back y) ?_
              cases r with
              | un => exact hv
              | ex _ => exact hv
              | fz d => exact hv
              | own oc =>
                obtain ⟨a, u, z1, z2, z3, z4, z5, z6⟩ := hv
                refine ⟨a, u, z1, z2, z3, z4, no_own, ?_⟩
                rcases z6 with z | z
                · exact (no_own z).elim
                · right
                  by_cases pa : a = p
                  · subst pa; exact hp
                  · rwa [upd_ne pa] at z
          · simp only [if_neg hO] at post; exact post.elim
    · simp only [if_neg c] at post; exact post.elim
where
  cxUpN : StX.CXUp (L2N.CX P w) := by
    rintro outer s H s2 H2 E e s' un kp ho ⟨a, B, H', cls, d, ea, fl, hok, ub, na, os, ag, he⟩
    have u1 : UB (frs outer) H H' s.heap B s'.heap := by
      refine ⟨fun b o z n hb => ub.keep b o (kp b o z) (un.free b o z n (by simp)) hb, fun b o z hb => ub.slot b o (kp b o z) hb, fun b o z n => ub.free b o (kp b o z) (un.free b o z n (by simp)), fun b o z hb => ub.there b o (kp b o z) hb,
        fun b xs z => ub.tups b xs (un.tups b xs z), fun b o xs z => ub.frzs b o xs (un.frzs b o xs z), fun b ps z => ?_⟩
      obtain ⟨m1, w1⟩ := un.tbls b ps z
      obtain ⟨m2, w2⟩ := ub.tbls b _ w1
      exact ⟨m1 ++ m2, w2.trans (by rw [Array.append_assoc])⟩
    exact ⟨a, B, H', cls, d, ea, fl, hok, u1, na, os.trans ho, ag, he⟩
end DL

/-! DLw: sizes of sets of ints; isinstance of several types, of a handled exception; xs.pop(i). -/
namespace DL
open PySem PySem.Spec L2
/-! ### len(set(t)), t a tuple of ints -/
def nub : List Int → List Int
  | [] => []
  | x :: r => if x ∈ r then nub r else x :: nub r
theorem nub_mem {k : Int} : ∀ l : List Int, k ∈ nub l ↔ k ∈ l
  | [] => Iff.rfl
  | x :: r => by
    unfold nub
    by_cases h : x ∈ r
    · rw [if_pos h, nub_mem r]
      constructor
      · exact fun z => List.mem_cons_of_mem _ z
      · intro z
        rcases List.mem_cons.mp z with z | z
        · subst z; exact h
        · exact z
    · rw [if_neg h, List.mem_cons, List.mem_cons, nub_mem r]
theorem nub_nodup : ∀ l : List Int, (nub l).Nodup
  | [] => List.nodup_nil
  | x :: r => by
    unfold nub
    by_cases h : x ∈ r
    · rw [if_pos h]; exact nub_nodup r
    · rw [if_neg h, List.nodup_cons]
      exact ⟨fun z => h ((nub_mem r).mp z), nub_nodup r⟩
theorem nub_len : ∀ l : List Int, (nub l).length ≤ l.length
  | [] => Nat.le_refl _
  | x :: r => by
    unfold nub
    have := nub_len r
    split <;> simp only [List.length_cons] <;> omega
def gSetN : D → Option D
  | .tuple xs => match intsOf xs with
    | some ns => if ns.length ≤ 4000 then some (.int (nub ns).length) else none
    | none => none
  | _ => none
def tSetN (K : PySem.W.Frag) (ta : TE) : TE := fun σ H Q => ta σ H fun x H1 => ∃ (l : Addr) (ns : List Int), x = .ref l ∧ SqT K H1 l (ns.map V.int) ∧ ns.length ≤ 4000 ∧ Q (.int ((nub ns).length : Nat)) H1
section
variable {X : Cx} {Γ : Gm} {W : WX} {pos : Pos}
theorem pe_setN {a : Expr} {ta : TE} {p p2 q : Pos} (glen : Gl X "len") (mlen : X.mg "len" = none) (gset : Gl X "set") (mset : X.mg "set" = none) (ha : PE X a ta) (calm : X.calm = true := by rfl)
    (one : starEach [a] X.env = (false, eval a X.env) :: starEach [] X.env := by rfl) : PE X (.Call (.Name "len" p) [.Call (.Name "set" p2) [a] [] q] [] pos) (tSetN X.K ta) := by
  refine ⟨fun pins s σ H Q J hq => ?_⟩
  refine PyProof.Rows.Call_ (ld_blt J glen mlen boot_len (PyProof.Rows.callWith_builtin1 (PyProof.Rows.args_cons ?_ rfl) rfl rfl))
  refine PyProof.Rows.Call_ (ld_blt J gset mset PyProof.Rows.boot_set (PyProof.Rows.callWith_type1 (PyProof.Rows.args_cons (thn (ha.run pins s σ H _ J hq) fun v s1 ⟨x, H1, J1, r1, w⟩ => PyProof.Rows.args_nil ?_) one) one rfl))
  obtain ⟨l, ns, e0, sq, small, w⟩ := w
  subst e0
  cases r1
  obtain ⟨its, rv, tup, hz⟩ := J1.tuple sq
  have ia : PyProof.Rows.IntsAre its.toArray.toList ns := ints_of_vals rv
  refine call_set_tupI ns (J1.ok.hd calm) (show s1.heap.IsTuple l its.toArray from tup) ia (by unfold scanBound; omega) fun h' tk c sr cle keep => ?_
  refine PyProof.Rows.args_nil ?_
  obtain ⟨o, es, ep, t, ho, hex, hdt, _, nd, mem, _, hf, hn, _, _⟩ := sr
  have J2 : Inv X pins σ H1 { s1 with heap := h', toks := tk } := J1.kept keep
  have len : es.size = (nub ns).length := by
    have p : (es.toList.map keyOf).Perm (nub ns) := by
      refine (List.perm_ext_iff_of_nodup nd (nub_nodup ns)).mpr fun k => ?_
      rw [nub_mem, ← mem k, decide_eq_true_eq]
    have := p.length_eq
    simpa using this
  have lle := nub_len ns
  exact call_len_set ho hex hdt hf (by omega) ⟨.int (nub ns).length, H1, J2.tok _, ⟨_, by rw [len]⟩, w⟩
theorem de_setN {a : Expr} {m : M D} {p p2 q : Pos} (glen : Gl X "len") (mlen : X.mg "len" = none) (gset : Gl X "set") (mset : X.mg "set" = none) (ha : PE X a (tD Γ W m)) (hK : X.K = Γ.K := by rfl) (calm : X.calm = true := by rfl)
    (one : starEach [a] X.env = (false, eval a X.env) :: starEach [] X.env := by rfl) : PE X (.Call (.Name "len" p) [.Call (.Name "set" p2) [a] [] q] [] pos) (tD Γ W (eUn gSetN m)) := by
  refine PE.imp (pe_setN glen mlen gset mset ha calm one) fun σ H Q ⟨G, ρ, s, h⟩ => ⟨G, ρ, s, (post_bind.mp h).imp (fun d ρ1 h1 v G1 H1 x1 r1 => ?_) fun _ _ e => e⟩
  obtain ⟨z, hz, w⟩ := opt_post h1
  unfold gSetN at hz
  split at hz
  · rename_i xs
    split at hz
    · rename_i ns hns
      split at hz
      · rename_i small
        cases hz
        have e := intsOf_eq hns
        subst e
        cases r1 with | tup sq ra =>
        have e2 := ra.ints
        subst e2
        rw [hK]
        exact ⟨_, ns, rfl, x1.sr.sub.seqT sq, small, w _ G1 H1 x1 (.int _)⟩
      · cases hz
    · cases hz
  · cases hz

/-! ### isinstance(x, (T, ..)) -/
def kitBs (a : String) : List String → Option Bool
  | [] => some false
  | T :: r => match kitB a T with
    | some true => some true
    | some false => kitBs a r
    | none => none
theorem kit_bs {K : PySem.W.Frag} {a : String} : ∀ {Ts : List String} {b : Bool}, kitBs a Ts = some b → PySem.W.kitAny K (.type a) (Ts.map fun T => Value.type T) = some b
  | [], b, h => by cases h; rfl
  | T :: r, b, h => by
    unfold kitBs at h
    cases q : kitB a T with
    | none => rw [q] at h; cases h
    | some k =>
      rw [q] at h
      cases k with
      | true => cases h; exact kitAny_cons (kit_ty q) (fun z => Bool.noConfusion z) (fun _ => rfl)
      | false => exact kitAny_cons (kit_ty q) (fun _ => kit_bs h) (fun z => Bool.noConfusion z)
def isiTD (Ts : List String) : D → Option D
  | .dict (_ :: _) => none
  | d => (kitBs (tyNm d) Ts).map .bool
def eIsiT (Ts : List String) (m : M D) : M D := m.bind fun d => M.opt (isiTD Ts d)
/-- names of built-in types, in a tuple -/
def tTys (Ts : List String) : TA := fun σ H Q => Q (Ts.map V.ty) H
theorem pt_nil : PA X [] (tTys []) := PA.imp pa_nil fun σ H Q h => h
theorem pt_cons {T : String} {Ts : List String} {e : Expr} {es : List Expr} (h1 : PE X e (tC (.ty T))) (h2 : PA X es (tTys Ts)) (hs : starEach (e :: es) X.env = (false, eval e X.env) :: starEach es X.env := by rfl) : PA X (e :: es) (tTys (T :: Ts)) :=
  PA.imp (pa_cons h1 h2 hs) fun σ H Q h => h
theorem clsV_tys : ∀ Ts : List String, Paired ClsV (Ts.map V.ty) (Ts.map fun T => Value.type T)
  | [] => .nil
  | T :: r => .cons (.ty T) (clsV_tys r)
theorem de_isiT {Ts : List String} {e : Expr} {es : List Expr} {m : M D} {p pT : Pos} {kk : Nat} (hg : Gl X "isinstance") (hm : X.mg "isinstance" = none) (he : PE X e (tD Γ W m)) (hT : PA X es (tTys Ts)) (hK : X.K = Γ.K := by rfl) (hfew : Ts.length ≤ 1000 := by decide)
    (hs : starEach [e, .Tuple es kk pT] X.env = (false, eval e X.env) :: starEach [.Tuple es kk pT] X.env := by rfl) (hs2 : starEach [.Tuple es kk pT] X.env = (false, eval (.Tuple es kk pT) X.env) :: starEach [] X.env := by rfl) (hpl : (backTo pos (starEach [.Tuple es kk pT] X.env)).any (·.1) = false := by rfl) :
    PE X (.Call (.Name "isinstance" p) [e, .Tuple es kk pT] [] pos) (tD Γ W (eIsiT Ts m)) := by
  refine PE.imp (pe_callB (r := rIsiT X.K) call_isiT hg hm (by decide +kernel) (pa_cons he (pa_cons (pe_tup hT) pa_nil hs2) hs) (by decide) (by decide) hs hpl) fun σ H Q ⟨G, ρ, s, h⟩ => ⟨G, ρ, s, (post_bind.mp h).imp (fun d ρ1 h1 v G1 H1 x1 r1 => ?_) fun _ _ e => e⟩
  obtain ⟨z, hz, q⟩ := opt_post h1
  rw [hK]
  refine ⟨by rw [List.length_map, sizeLine_eq]; omega, fun tp ntp => ?_⟩
  unfold isiTD at hz
  split at hz
  · cases hz
  · rename_i hd
    cases hk : kitBs (tyNm d) Ts with
    | none => rw [hk] at hz; cases hz
    | some b =>
      rw [hk] at hz
      cases hz
      have x2 := Ext0.new (o := .tup (Ts.map V.ty)) x1.sr.sub ntp
      exact ⟨v, tp, Ts.map V.ty, .type (tyNm d), _, b, rfl, upd_same, clsV_tys Ts, tyX_of x2.gh (r1.mono x2.g) (fun a b e => hd _ _ e), kit_bs hk, q _ _ _ (x1.tr (x1.sr.ext x2)) (.bl b)⟩

/-! ### isinstance(n, C) where n is the handled exception -/
theorem de_isX {a D : Addr} {oe : Obj} {i : Nat} {n : Str} {bo : Option Bool} {v : V} {cv : Value} {ce : Expr} {p pn : Pos} (fl : ∃ vs, oe.data = .fields vs) (hp : (a, oe) ∈ X.pn) (hn : PE X (.Name n pn) (tVar i)) (hc : PE X ce (tC v)) (hv : ∀ u, RelV v u → u = cv)
    (facts : ∀ b, bo = some b → ExcC X.K D ∧ Zc (.ref D) none oe ∧ PySem.W.kitOne X.K (.ref D) cv = some b) (hg : Gl X "isinstance") (hm : X.mg "isinstance" = none)
    (hs : starEach [.Name n pn, ce] X.env = (false, eval (.Name n pn) X.env) :: starEach [ce] X.env := by rfl) (hs2 : starEach [ce] X.env = (false, eval ce X.env) :: starEach [] X.env := by rfl) (hpl : (backTo pos (starEach [ce] X.env)).any (·.1) = false := by rfl) :
    PE X (.Call (.Name "isinstance" p) [.Name n pn, ce] [] pos) (tD Γ W (eIsX a i bo)) := by
  cases bo with
  | none =>
    refine ⟨fun pins s σ H Q I ⟨G, ρ, sr, h⟩ => ?_⟩
    unfold eIsX at h
    split at h <;> exact h.elim
  | some b =>
    obtain ⟨f1, f2, f3⟩ := facts b rfl
    refine PE.imp (pe_callB (r := rIsE X.K D a) (call_isX f1 f2 fl hp) hg hm (by decide +kernel) (pa_cons hn (pa_cons hc pa_nil hs2) hs) (by decide) (by decide) hs hpl) fun σ H Q ⟨G, ρ, s, h⟩ => ?_
    unfold eIsX at h
    split at h
    · rename_i a' e
      simp only at h
      split at h
      · rename_i ea
        subst ea
        exact ⟨.ref a', s.ok i _ e, v, cv, b, rfl, hv, f3, h _ G H (Stp.rfl s) (.bl b)⟩
      · exact h.elim
    · exact h.elim

/-! ### xs.pop(k) -/
def popK (ds : List D) (k : Int) : Option (D × List D) := if 0 ≤ k ∧ k < 2 ^ 62 then match ds[k.toNat]? with
    | some d => some (d, ds.eraseIdx k.toNat)
    | none => none
  else none
def ePopK (i : Nat) (mk : M D) : M D := slotL i fun _ => mk.bind fun k => slotL i fun ds => match k with
  | .int k => match popK ds k with
    | some (d, r) => fun ρ => .ok d (ρ.set i (.own (.lst r)))
    | none => M.fail
  | _ => M.fail
theorem RpAll.erase {K : PySem.W.Frag} {G : Hp} : ∀ {ds : List D} {vs : List V} (i : Nat), RpAll K G vs ds → RpAll K G (vs.eraseIdx i) (ds.eraseIdx i)
  | [], _, _, h => by cases h; exact .nil
  | d :: ds, _, 0, h => by cases h with | cons a b => exact b
  | d :: ds, _, i + 1, h => by cases h with | cons a b => exact .cons a (RpAll.erase i b)
theorem de_popK {i : Nat} {x : Str} {px apos cpos : Pos} {b : Expr} {mk : M D} (hx : PE X (.Name x px) (tVar i)) (hb : PE X b (tD Γ W mk)) (hK : X.K = Γ.K := by rfl)
    (hbase : attributeBase (.Name x px) "pop" X.env (eval (.Name x px) X.env) = eval (.Name x px) X.env := by rfl)
    (hfew : ((backTo cpos (starEach [b] X.env)).all (fun x => !x.1) && (backToKw cpos (keywordEach [] X.env)).all (fun x => x.1.isSome) && decide (([b] : List Expr).length + ([] : List Keyword).length + (if ([] : List Keyword).isEmpty then 0 else 1) < 30)) = true := by rfl)
    (hline : (apos.endLine == cpos.line) = true := by rfl) (hs : starEach [b] X.env = (false, eval b X.env) :: starEach [] X.env := by rfl) :
    PE X (.Call (.Attribute (.Name x px) "pop" apos) [b] [] cpos) (tD Γ W (ePopK i mk)) := by
  refine PE.imp (pe_bm PySem.F.plainAttrs_list PySem.F.slot_list_pop PySem.F.type_list_pop mt_popAt hx (pa_cons hb pa_nil hs) hbase hfew hline hs rfl) fun σ H Q ⟨G, ρ, s, h⟩ => ?_
  obtain ⟨ds0, e, h⟩ := slotL_post h
  obtain ⟨a, vs, e1, e2, _⟩ := s.ownL e
  refine ⟨.ref a, e1, .inl ⟨rfl, vs, SqL.of e2⟩, G, ρ, s, (post_bind.mp h).imp (fun k ρ2 h2 u G2 H2 x2 r2 => ?_) fun _ _ e => e⟩
  obtain ⟨ds, f, h3⟩ := slotL_post h2
  cases k <;> try exact h3.elim
  rename_i k
  cases hpk : popK ds k with
  | none => simp only [hpk] at h3; exact h3.elim
  | some pr =>
    obtain ⟨d, r⟩ := pr
    simp only [hpk] at h3
    unfold popK at hpk
    split at hpk
    · rename_i hk
      split at hpk
      · rename_i d' hd
        cases hpk
        obtain ⟨a', vs', g1, g2, g3⟩ := x2.sr.ownL f
        have g1' := g1
        rw [e1] at g1'; cases g1'
        cases r2
        obtain ⟨v, w1, w2⟩ := g3.getD hd
        have hlt : k.toNat < vs'.length := by
          rcases Nat.lt_or_ge k.toNat vs'.length with z | z
          · exact z
          · rw [List.getElem?_eq_none z] at w1; cases w1
        refine ⟨a, vs', k, k.toNat, v, rfl, rfl, g2, by omega, by omega, ?_, w1, h3 v G2 _ (x2.tr (x2.sr.updO f g1 (.lst (g3.erase _)))) w2⟩
        unfold seqIndex?
        simp only
        first
        | (rw [if_pos (by omega)]; first | rfl | simp)
        | (split <;> first | rfl | (simp; omega) | omega)
      · cases hpk
    · cases hpk
end
end DL

/-! DLx: rows of ints: x = [[0] * i for i in range(n)]; for h, l, d in t: x[h][l] = max(d, x[h][l]). Behind it x is frozen. -/
namespace DL
open PySem PySem.Spec L2
def rows0 (n : Nat) : List (List Int) := (List.range n).map fun i => List.replicate i 0
def upRow (rows : List (List Int)) (t : Int × Int × Int) : Option (List (List Int)) :=
  if 0 ≤ t.1 ∧ 0 ≤ t.2.1 then match rows[t.1.toNat]? with
    | some r => match r[t.2.1.toNat]? with
      | some o => some (rows.set t.1.toNat (r.set t.2.1.toNat (if o > t.2.2 then o else t.2.2)))
      | none => none
    | none => none
  else none
def upRows : List (Int × Int × Int) → List (List Int) → Option (List (List Int))
  | [], rows => some rows
  | t :: ts, rows => (upRow rows t).bind (upRows ts)
theorem upRows_snoc {t : Int × Int × Int} : ∀ (ts : List (Int × Int × Int)) (rows : List (List Int)), upRows (ts ++ [t]) rows = (upRows ts rows).bind fun r => upRow r t
  | [], rows => by
    show (upRow rows t).bind (upRows []) = (some rows).bind _
    cases h : upRow rows t <;> simp [upRows, h]
  | u :: ts, rows => by
    simp only [List.cons_append, upRows]
    cases upRow rows u with
    | none => rfl
    | some r => exact upRows_snoc ts r
def tripOf : D → Option (Int × Int × Int)
  | .tuple [.int h, .int l, .int d] => some (h, l, d)
  | _ => none
def tripsOf : List D → Option (List (Int × Int × Int))
  | [] => some []
  | d :: ds => match tripOf d, tripsOf ds with
    | some t, some ts => some (t :: ts)
    | _, _ => none
theorem tripOf_eq {d : D} {t : Int × Int × Int} (h : tripOf d = some t) : d = .tuple [.int t.1, .int t.2.1, .int t.2.2] := by
  unfold tripOf at h
  split at h <;> cases h
  rfl
theorem tripsOf_eq : ∀ {ds : List D} {ts : List (Int × Int × Int)}, tripsOf ds = some ts → ds = ts.map fun t => PyData.tuple [.int t.1, .int t.2.1, .int t.2.2]
  | [], _, h => by cases h; rfl
  | d :: ds, ts, h => by
    unfold tripsOf at h
    cases q : tripOf d with
    | none => rw [q] at h; cases h
    | some t =>
      cases q2 : tripsOf ds with
      | none => rw [q, q2] at h; cases h
      | some us =>
        rw [q, q2] at h
        cases h
        rw [tripOf_eq q, tripsOf_eq q2]; rfl
def rowsD (rows : List (List Int)) : D := .list (rows.map fun r => .list (r.map .int))
def sRows (iR iN iT iH iL iD iI : Nat) : M Flw := fun ρ => match ρ[iN]?, ρ[iT]? with
  | some (.fz (.int n)), some (.fz (.list ts)) => if 0 ≤ n ∧ n ≤ 1000 ∧ iR < ρ.length ∧ iH < ρ.length ∧ iL < ρ.length ∧ iD < ρ.length ∧ iI < ρ.length then match tripsOf ts with
      | some us => match upRows us (rows0 n.toNat) with
        | some rows => .ok .next ((((ρ.set iR (.fz (rowsD rows))).set iH .un).set iL .un).set iD .un)
        | none => .bad
      | none => .bad
    else .bad
  | _, _ => .bad
theorem sRows_post {iR iN iT iH iL iD iI : Nat} {ρ : Rho} {Q : Flw → Rho → Prop} {E : Exc → Rho → Prop} (h : (sRows iR iN iT iH iL iD iI ρ).Post Q E) :
    ∃ n ts us rows, ρ[iN]? = some (.fz (.int n)) ∧ ρ[iT]? = some (.fz (.list ts)) ∧ (0 ≤ n ∧ n ≤ 1000 ∧ iR < ρ.length ∧ iH < ρ.length ∧ iL < ρ.length ∧ iD < ρ.length ∧ iI < ρ.length) ∧ tripsOf ts = some us ∧ upRows us (rows0 n.toNat) = some rows ∧
      Q .next ((((ρ.set iR (.fz (rowsD rows))).set iH .un).set iL .un).set iD .un) := by
  unfold sRows at h
  split at h
  · rename_i n ts e1 e2
    split at h
    · rename_i hb
      cases q : tripsOf ts with
      | none => simp only [q] at h; exact h.elim
      | some us =>
        simp only [q] at h
        cases q2 : upRows us (rows0 n.toNat) with
        | none => simp only [q2] at h; exact h.elim
        | some rows => simp only [q2] at h; exact ⟨n, ts, us, rows, e1, e2, hb, q, q2, h⟩
    · exact h.elim
  · exact h.elim
theorem SR.setN {K : PySem.W.Frag} {G H : Hp} {σ : St} {ρ : Rho} (s : SR K G H σ ρ) (i : Nat) (o : Option V) : Stp K G H σ ρ G H (σ.set i o) (ρ.set i .un) := by
  have back : ∀ j b, OwnAt (σ.set i o) (ρ.set i .un) j b → OwnAt σ ρ j b := fun j b ⟨c, e1, e2⟩ => by
    by_cases q : i = j
    · subst q
      rw [List.getElem?_set] at e1
      split at e1
      · split at e1 <;> cases e1
      · contradiction
    · rw [List.getElem?_set_ne q] at e1 e2
      exact ⟨c, e1, e2⟩
  refine ⟨⟨s.sub, by rw [List.length_set, List.length_set]; exact s.len, fun j t e => ?_, fun j k b x y => s.sep j k b (back j b x) (back k b y)⟩, Fr.rfl, fun b ⟨j, x⟩ => .inl ⟨j, back j b x⟩⟩
  by_cases q : i = j
  · subst q
    rw [List.getElem?_set] at e
    split at e
    · split at e
      · cases e; trivial
      · cases e
    · contradiction
  · rw [List.getElem?_set_ne q] at e ⊢
    exact s.ok j t e
/-- the rows stand at D, beside what stood before -/
structure RowsAt (H0 H : Hp) (D : Addr) (rows : List (List Int)) (bs : List Addr) : Prop where
  top : H D = some (.lst (bs.map V.ref))
  len : bs.length = rows.length
  row : ∀ (i : Nat) (b : Addr) (r : List Int), bs[i]? = some b → rows[i]? = some r → H b = some (.lst (r.map V.int))
  nd : bs.Nodup
  new : ∀ b ∈ bs, b ≠ D ∧ H0 b = none
  newD : H0 D = none
  old : ∀ a o, H0 a = some o → H a = some o
theorem rep_flat (k : Nat) : (List.replicate k [V.int 0]).flatten = (List.replicate k (0 : Int)).map V.int := by
  induction k with
  | zero => rfl
  | succ k ih => rw [List.replicate_succ, List.flatten_cons, ih, List.replicate_succ]; rfl
theorem rows0_succ (n : Nat) : rows0 (n + 1) = rows0 n ++ [List.replicate n 0] := by simp [rows0, List.range_succ]
theorem RowsAt.push {H0 H : Hp} {D : Addr} {rows : List (List Int)} {bs : List Addr} (h : RowsAt H0 H D rows bs) {p q : Addr} {r : List Int} {u : HO} (hp : H p = none) (hq : upd H p u q = none) :
    RowsAt H0 (upd (upd (upd H p u) q (.lst (r.map V.int))) D (.lst (bs.map V.ref ++ [.ref q]))) D (rows ++ [r]) (bs ++ [q]) := by
  have qp : q ≠ p := fun e => by rw [e, upd_same] at hq; cases hq
  have qn : H q = none := by rwa [upd_ne qp] at hq
  have qD : q ≠ D := fun e => by rw [e, h.top] at qn; cases qn
  have pD : p ≠ D := fun e => by rw [e, h.top] at hp; cases hp
  have q0 : H0 q = none := by
    cases e : H0 q with
    | none => rfl
    | some o => rw [h.old q o e] at qn; cases qn
  have known : ∀ a o, H a = some o → a ≠ D → (upd (upd (upd H p u) q (.lst (r.map V.int))) D (.lst (bs.map V.ref ++ [.ref q]))) a = some o := fun a o e ne => by
    rw [upd_ne ne, upd_ne (ne_of_none e qn), upd_ne (ne_of_none e hp)]; exact e
  have inb : ∀ b ∈ bs, ∃ r, H b = some (.lst r) := fun b hb => by
    obtain ⟨i, hi⟩ := List.getElem?_of_mem hb
    have hl : i < rows.length := by
      rw [← h.len]
      rcases Nat.lt_or_ge i bs.length with z | z
      · exact z
      · rw [List.getElem?_eq_none z] at hi; cases hi
    exact ⟨_, h.row i b rows[i] hi (List.getElem?_eq_getElem hl)⟩
  refine ⟨by rw [upd_same, List.map_append]; rfl, by simp [h.len], fun i b s e1 e2 => ?_, ?_, fun b hb => ?_, h.newD, fun a o e => ?_⟩
  · by_cases hi : i < bs.length
    · rw [List.getElem?_append_left hi] at e1
      rw [List.getElem?_append_left (by rw [← h.len]; exact hi)] at e2
      exact known b _ (h.row i b s e1 e2) (h.new b (List.mem_of_getElem? e1)).1
    · rw [List.getElem?_append_right (by omega)] at e1
      rw [List.getElem?_append_right (by rw [← h.len]; omega), ← h.len] at e2
      cases hk : i - bs.length with
      | zero =>
        rw [hk] at e1 e2
        simp at e1 e2
        subst e1 e2
        rw [upd_ne qD, upd_same]
      | succ k => rw [hk] at e1; simp at e1
  · rw [List.nodup_append]
    refine ⟨h.nd, by simp, fun a ha b hb => ?_⟩
    rw [List.mem_singleton] at hb
    subst hb
    obtain ⟨r', e⟩ := inb a ha
    exact ne_of_none e qn
  · rcases List.mem_append.mp hb with z | z
    · exact h.new b z
    · rw [List.mem_singleton] at z; subst z; exact ⟨qD, q0⟩
  · have ne : a ≠ D := fun z => by rw [z, h.newD] at e; cases e
    exact known a o (h.old a o e) ne
theorem RowsAt.put {H0 H : Hp} {D : Addr} {rows : List (List Int)} {bs : List Addr} (h : RowsAt H0 H D rows bs) {i : Nat} {b : Addr} {r : List Int} (hb : bs[i]? = some b) (hr : rows[i]? = some r) (s : List Int) :
    RowsAt H0 (upd H b (.lst (s.map V.int))) D (rows.set i s) bs := by
  have nb := h.new b (List.mem_of_getElem? hb)
  have hil : i < bs.length := by
    rcases Nat.lt_or_ge i bs.length with z | z
    · exact z
    · rw [List.getElem?_eq_none z] at hb; cases hb
  refine ⟨by rw [upd_ne nb.1.symm]; exact h.top, by rw [List.length_set]; exact h.len, fun j c t e1 e2 => ?_, h.nd, h.new, h.newD, fun a o e => ?_⟩
  · by_cases q : i = j
    · subst q
      rw [hb] at e1
      cases e1
      rw [List.getElem?_set_self (by rw [← h.len]; exact hil)] at e2
      cases e2
      exact upd_same
    · rw [List.getElem?_set_ne q] at e2
      have ne : c ≠ b := fun z => by
        subst z
        have hj : j < bs.length := by
          rcases Nat.lt_or_ge j bs.length with z | z
          · exact z
          · rw [List.getElem?_eq_none z] at e1; cases e1
        have e3 : bs[i]'hil = bs[j]'hj := by
          have e4 := hb
          have e5 := e1
          rw [List.getElem?_eq_getElem hil] at e4
          rw [List.getElem?_eq_getElem hj] at e5
          exact (Option.some.inj e4).trans (Option.some.inj e5).symm
        have := (List.getElem_inj h.nd).mp e3
        exact q this
      rw [upd_ne ne]
      exact h.row j c t e1 e2
  · rw [upd_ne]
    · exact h.old a o e
    · intro z; subst z; rw [nb.2] at e; cases e

theorem upRows_take {us : List (Int × Int × Int)} {r0 rows : List (List Int)} (h : upRows us r0 = some rows) {i : Nat} {t : Int × Int × Int} {r : List (List Int)} (e : us[i]? = some t) (h1 : upRows (us.take i) r0 = some r) :
    ∃ r', upRow r t = some r' ∧ upRows (us.take (i + 1)) r0 = some r' := by
  have e1 : us.take (i + 1) = us.take i ++ [t] := by
    rw [List.take_add_one, e]; rfl
  have e2 : upRows (us.take (i + 1)) r0 = upRow r t := by
    rw [e1, upRows_snoc, h1]; rfl
  cases q : upRow r t with
  | some r' => exact ⟨r', rfl, e2.trans q⟩
  | none =>
    have e3 : us = us.take (i + 1) ++ us.drop (i + 1) := (List.take_append_drop _ _).symm
    have e4 : ∀ (a b : List (Int × Int × Int)) (r0 : List (List Int)), upRows (a ++ b) r0 = (upRows a r0).bind (upRows b) := by
      intro a
      induction a with
      | nil => intro b r0; rfl
      | cons u a ih =>
        intro b r0
        show (upRow r0 u).bind (upRows (a ++ b)) = ((upRow r0 u).bind (upRows a)).bind (upRows b)
        cases upRow r0 u with
        | none => rfl
        | some z => exact ih b z
    rw [e3, e4, e2, q] at h
    cases h
theorem set3 {σ σ' : St} {a b c : Nat} (hl : σ'.length = σ.length) (h : ∀ j, j ≠ a → j ≠ b → j ≠ c → σ'[j]? = σ[j]?) (ha : a < σ.length) (hb : b < σ.length) (hc : c < σ.length) :
    ∃ x y z, σ' = ((σ.set a x).set b y).set c z := by
  refine ⟨σ'[a]'(by omega), σ'[b]'(by omega), σ'[c]'(by omega), List.ext_getElem? fun j => ?_⟩
  by_cases q3 : j = c
  · subst q3; rw [List.getElem?_set_self (by simp; exact hc), List.getElem?_eq_getElem]
  · rw [List.getElem?_set_ne (fun e => q3 e.symm)]
    by_cases q2 : j = b
    · subst q2; rw [List.getElem?_set_self (by simp; exact hb), List.getElem?_eq_getElem]
    · rw [List.getElem?_set_ne (fun e => q2 e.symm)]
      by_cases q1 : j = a
      · subst q1; rw [List.getElem?_set_self ha, List.getElem?_eq_getElem]
      · rw [List.getElem?_set_ne (fun e => q1 e.symm)]; exact h j q1 q2 q3
theorem rpAll_ints {K : PySem.W.Frag} {G : Hp} : ∀ r : List Int, RpAll K G (r.map V.int) (r.map PyData.int)
  | [] => .nil
  | i :: r => .cons (.int i) (rpAll_ints r)
theorem rpAll_rows {K : PySem.W.Frag} {G : Hp} : ∀ (bs : List Addr) (rows : List (List Int)), bs.length = rows.length → (∀ (i : Nat) (b : Addr) (r : List Int), bs[i]? = some b → rows[i]? = some r → G b = some (.lst (r.map V.int))) → RpAll K G (bs.map V.ref) (rows.map fun r => .list (r.map .int))
  | [], [], _, _ => .nil
  | b :: bs, r :: rows, h, k => .cons (.lst (k 0 b r rfl rfl) (rpAll_ints r)) (rpAll_rows bs rows (by simpa using h) fun i b' r' e1 e2 => k (i + 1) b' r' e1 e2)
/-- what stood stays, the rows are frozen -/
theorem RowsAt.frz {K : PySem.W.Frag} {G H0 H : Hp} {D : Addr} {rows : List (List Int)} {bs : List Addr} (h : RowsAt H0 H D rows bs) (s : Sub G H0) : ∃ G2, Ext0 G H0 G2 H ∧ Rp K G2 (.ref D) (rowsD rows) := by
  classical
  refine ⟨fun a => if a = D ∨ a ∈ bs then H a else G a, ⟨fun a o e => ?_, h.old, fun a o e => ?_, fun a o e n => ?_⟩, ?_⟩
  · have : ¬ (a = D ∨ a ∈ bs) := fun z => by
      rcases z with z | z
      · have w := h.newD
        rw [← z, s _ _ e] at w; cases w
      · have := (h.new a z).2; rw [s _ _ e] at this; cases this
    show (if a = D ∨ a ∈ bs then H a else G a) = some o
    rw [if_neg this]; exact e
  · have e : (if a = D ∨ a ∈ bs then H a else G a) = some o := e
    split at e
    · exact e
    · exact h.old a o (s a o e)
  · have : ¬ (a = D ∨ a ∈ bs) := fun z => by
      rcases z with z | z
      · subst z; rw [h.newD] at e; cases e
      · rw [(h.new a z).2] at e; cases e
    show (if a = D ∨ a ∈ bs then H a else G a) = none
    rw [if_neg this]; exact n
  · refine .lst (xs := bs.map V.ref) ?_ (rpAll_rows bs rows h.len fun i b r e1 e2 => ?_)
    · show (if D = D ∨ D ∈ bs then H D else G D) = _
      rw [if_pos (.inl rfl)]; exact h.top
    · show (if b = D ∨ b ∈ bs then H b else G b) = _
      rw [if_pos (.inr (List.mem_of_getElem? e1))]; exact h.row i b r e1 e2
def rMx2 : List V → Hp → VK → Prop := fun xs H Q => ∃ i j, xs = [.int i, .int j] ∧ Q (.int (if j > i then j else i)) H
theorem atI_nn {α : Type} {xs : List α} {i : Int} {v : α} (h : 0 ≤ i) (e : xs[i.toNat]? = some v) : atI xs i = some v := by
  have hl : i.toNat < xs.length := by
    rcases Nat.lt_or_ge i.toNat xs.length with z | z
    · exact z
    · rw [List.getElem?_eq_none z] at e; cases e
  unfold atI ixN
  rw [if_pos h, if_pos (by omega)]
  exact e
section
variable {X : Cx} {Γ : Gm} {W : WX} {P : List Nat} {S1 S2 : Stmt} {rest : List Stmt} {n : M Flw} {iR iN iT iH iL iD iI : Nat}
theorem ds_rows (h1 : PS X S1 (tAsg (tLc (iRng1 (tCons (tVar iN) tNil)) (gName iI) tYes (tOp rRep (tLst (tCons (tC (.int 0)) tNil)) (tVar iI)) [iI]) (gName iR)))
    (h2 : PS X S2 (tFor (iList X.K (tVar iT)) (gTup X.K 3 (gCons (gName iH) (gCons (gName iL) (gCons (gName iD) gNil)))) (tAsg (tCB rMx2 (tCons (tVar iD) (tCons (tOp (rIxL X.K) (tOp (rIxL X.K) (tVar iR) (tVar iH)) (tVar iL)) tNil))) (L2.gSub (tOp (rIxL X.K) (tVar iR) (tVar iH)) (tVar iL) rSetL))))
    (hr : PSs X rest (tS Γ W P n)) (hK : X.K = Γ.K := by rfl) (hP : iR ∉ P ∧ iH ∉ P ∧ iL ∉ P ∧ iD ∉ P := by decide)
    (hne : iR ≠ iH ∧ iR ≠ iL ∧ iR ≠ iD ∧ iH ≠ iL ∧ iH ≠ iD ∧ iL ≠ iD ∧ iT ≠ iR ∧ iT ≠ iH ∧ iT ≠ iL ∧ iT ≠ iD := by decide) :
    PSs X (S1 :: S2 :: rest) (tS Γ W P (sSeq (sRows iR iN iT iH iL iD iI) n)) := by
  refine PSs.imp (pss_cons h1 (pss_cons h2 hr)) fun D σ H ⟨G, ρ, s, h⟩ => ?_
  obtain ⟨k, ts, us, rows, eN, eT, ⟨k0, k1, lR, lH, lL, lD, lI⟩, hus, hup, h⟩ := sRows_post (post_bind.mp h)
  obtain ⟨n1, n2, n3, n4, n5, n6, n7, n8, n9, n10⟩ := hne
  have len := s.len
  obtain ⟨vN, sN, rN⟩ := s.ok iN _ eN
  obtain ⟨vT, sT, rT⟩ := s.ok iT _ eT
  cases rN
  cases rT with | lst gT aT =>
  rename_i aT0 xs
  have ets := tripsOf_eq hus
  subst ets
  refine ⟨_, sN, k, rfl, by omega, by omega, fun Dd hD => ?_⟩
  refine lc_range (Qd := fun H' => tFor (iList X.K (tVar iT)) (gTup X.K 3 (gCons (gName iH) (gCons (gName iL) (gCons (gName iD) gNil)))) (tAsg (tCB rMx2 (tCons (tVar iD) (tCons (tOp (rIxL X.K) (tOp (rIxL X.K) (tVar iR) (tVar iH)) (tVar iL)) tNil))) (L2.gSub (tOp (rIxL X.K) (tVar iR) (tVar iH)) (tVar iL) rSetL)) { D with nx := tS Γ W P n D } (σ.set iR (some (.ref Dd))) H')
    (fun j H' => ∃ bs, RowsAt H H' Dd (rows0 j) bs) ⟨[], ⟨upd_same, rfl, fun i b r e _ => by simp at e, List.nodup_nil, fun b hb => by simp at hb, hD, fun a o e => by rw [upd_ne (ne_of_none e hD)]; exact e⟩⟩ (fun j H' hj ⟨bs, ra⟩ => ?_) fun H1 ⟨bs, ra⟩ => ?_
  · have lw : iI < (wipe σ [iI]).length := by rw [wipe_length]; omega
    refine ⟨by simp [wipe, List.set_set], ?_⟩
    simp only [tYes, if_true]
    refine ⟨by rw [sizeLine_eq]; decide, fun p hp => ⟨_, List.getElem?_set_self lw, p, (0 : Int) + (j : Int), [.int 0], rfl, rfl, upd_same, by omega, by omega, by rw [sizeLine_eq]; simp; omega, fun q hq => ?_⟩⟩
    have ej : ((0 : Int) + (j : Int)).toNat = j := by omega
    rw [ej]
    rw [rep_flat]
    have rp := ra.push (r := List.replicate j 0) hp hq
    have qp : q ≠ p := fun e => by rw [e, upd_same] at hq; cases hq
    have qn : H' q = none := by rwa [upd_ne qp] at hq
    have qD : Dd ≠ q := fun e => by rw [← e, ra.top] at qn; cases qn
    have pD : Dd ≠ p := fun e => by rw [← e, ra.top] at hp; cases hp
    refine ⟨bs.map V.ref, by rw [upd_ne qD, upd_ne pD]; exact ra.top, ?_, bs ++ [q], ?_⟩
    · have := ra.len
      rw [List.length_map, this, sizeLine_eq]
      simp [rows0]; omega
    · rw [rows0_succ]; exact rp
  · have hTR : (σ.set iR (some (V.ref Dd)))[iT]? = some (some (.ref aT0)) := by
      rw [List.getElem?_set_ne (fun e => n7 e.symm)]; exact sT
    have sqT : ∀ {H' : Hp} {rows' bs'}, RowsAt H H' Dd rows' bs' → SqL X.K H' aT0 xs := fun ra' => SqL.of (ra'.old _ _ (s.sub _ _ gT))
    refine ⟨_, hTR, aT0, rfl, ⟨xs, sqT ra⟩, ?_⟩
    have alen := aT.length
    rw [List.length_map] at alen
    refine for_list (xs := xs) (fun i σ' H' => ∃ bs rows', upRows (us.take i) (rows0 k.toNat) = some rows' ∧ RowsAt H H' Dd rows' bs ∧ σ'.length = σ.length ∧ ∀ j, j ≠ iH → j ≠ iL → j ≠ iD → σ'[j]? = (σ.set iR (some (V.ref Dd)))[j]?)
      ⟨bs, _, rfl, ra, by simp, fun _ _ _ _ => rfl⟩ (fun i σ' H' _ ⟨_, _, _, r, _⟩ => sqT r) (fun i x σ2 H2 hx ⟨bs2, rows2, u2, ra2, l2, f2⟩ => ?_) fun σ2 H2 ⟨bs2, rows2, u2, ra2, l2, f2⟩ => ?_
    · have hi : i < us.length := by
        rw [← alen]
        rcases Nat.lt_or_ge i xs.length with z | z
        · exact z
        · rw [List.getElem?_eq_none z] at hx; cases hx
      have eu : us[i]? = some us[i] := List.getElem?_eq_getElem hi
      generalize us[i] = t at eu
      have er : (us.map fun t => PyData.tuple [.int t.1, .int t.2.1, .int t.2.2])[i]? = some (PyData.tuple [.int t.1, .int t.2.1, .int t.2.2]) := by rw [List.getElem?_map, eu]; rfl
      obtain ⟨x', ex, rx⟩ := aT.getD er
      rw [hx] at ex
      cases ex
      obtain ⟨r', ur, ut⟩ := upRows_take hup eu u2
      cases rx with | tup sqx ax =>
      rename_i ax0 xx
      have exx : xx = [V.int t.1, .int t.2.1, .int t.2.2] := by
        cases ax with | cons a1 ax => cases ax with | cons a2 ax => cases ax with | cons a3 ax => cases ax; cases a1; cases a2; cases a3; rfl
      subst exx
      have sub2 : Sub H H2 := ra2.old
      refine ⟨ax0, _, rfl, by rw [hK]; exact sub2.seqT (s.sub _ _ sqx), rfl, _, _, rfl, _, _, rfl, _, _, rfl, rfl, ?_⟩
      have l3 : iH < σ2.length ∧ iL < σ2.length ∧ iD < σ2.length ∧ iR < σ.length := by omega
      obtain ⟨m1, m2, m3, m4⟩ := l3
      have gH : (((σ2.set iH (some (V.int t.1))).set iL (some (V.int t.2.1))).set iD (some (V.int t.2.2)))[iH]? = some (some (V.int t.1)) := by
        rw [List.getElem?_set_ne (fun e => n5 e.symm), List.getElem?_set_ne (fun e => n4 e.symm), List.getElem?_set_self m1]
      have gL : (((σ2.set iH (some (V.int t.1))).set iL (some (V.int t.2.1))).set iD (some (V.int t.2.2)))[iL]? = some (some (V.int t.2.1)) := by
        rw [List.getElem?_set_ne (fun e => n6 e.symm), List.getElem?_set_self (by simp; exact m2)]
      have gD : (((σ2.set iH (some (V.int t.1))).set iL (some (V.int t.2.1))).set iD (some (V.int t.2.2)))[iD]? = some (some (V.int t.2.2)) := by
        rw [List.getElem?_set_self (by simp; exact m3)]
      have gO : ∀ j, j ≠ iH → j ≠ iL → j ≠ iD → (((σ2.set iH (some (V.int t.1))).set iL (some (V.int t.2.1))).set iD (some (V.int t.2.2)))[j]? = (σ.set iR (some (V.ref Dd)))[j]? := fun j q1 q2 q3 => by
        rw [List.getElem?_set_ne (fun e => q3 e.symm), List.getElem?_set_ne (fun e => q2 e.symm), List.getElem?_set_ne (fun e => q1 e.symm)]; exact f2 j q1 q2 q3
      have gR : (((σ2.set iH (some (V.int t.1))).set iL (some (V.int t.2.1))).set iD (some (V.int t.2.2)))[iR]? = some (some (V.ref Dd)) := by
        rw [gO iR n1 n2 n3, List.getElem?_set_self m4]
      have gLen : (((σ2.set iH (some (V.int t.1))).set iL (some (V.int t.2.1))).set iD (some (V.int t.2.2))).length = σ.length := by simp [l2]
      generalize ((σ2.set iH (some (V.int t.1))).set iL (some (V.int t.2.1))).set iD (some (V.int t.2.2)) = σ3 at gH gL gD gO gR gLen
      unfold upRow at ur
      split at ur
      · rename_i nn
        cases e1 : rows2[t.1.toNat]? with
        | none => rw [e1] at ur; cases ur
        | some r =>
          simp only [e1] at ur
          cases e2 : r[t.2.1.toNat]? with
          | none => rw [e2] at ur; cases ur
          | some o =>
            simp only [e2] at ur
            cases ur
            have hlt : t.1.toNat < bs2.length := by
              rw [ra2.len]
              rcases Nat.lt_or_ge t.1.toNat rows2.length with z | z
              · exact z
              · rw [List.getElem?_eq_none z] at e1; cases e1
            have hlr : t.2.1.toNat < r.length := by
              rcases Nat.lt_or_ge t.2.1.toNat r.length with z | z
              · exact z
              · rw [List.getElem?_eq_none z] at e2; cases e2
            have eb : bs2[t.1.toNat]? = some bs2[t.1.toNat] := List.getElem?_eq_getElem hlt
            generalize bs2[t.1.toNat] = b at eb
            have row := ra2.row _ b r eb e1
            have at1 : atI (bs2.map V.ref) t.1 = some (.ref b) := atI_nn nn.1 (by rw [List.getElem?_map, eb]; rfl)
            have at2 : atI (r.map V.int) t.2.1 = some (.int o) := atI_nn nn.2 (by rw [List.getElem?_map, e2]; rfl)
            have ix : ixN (r.map V.int).length t.2.1 = some t.2.1.toNat := by unfold ixN; rw [if_pos nn.2, if_pos (by rw [List.length_map]; omega)]
            refine ⟨_, gD, _, gR, _, gH, Dd, _, _, _, rfl, rfl, SqL.of ra2.top, at1, _, gL, b, _, _, _, rfl, rfl, SqL.of row, at2, t.2.2, o, rfl, ?_⟩
            refine ⟨_, gR, _, gH, Dd, _, _, _, rfl, rfl, SqL.of ra2.top, at1, _, gL, b, _, _, _, rfl, rfl, row, ix, ?_⟩
            refine ⟨bs2, _, ut, ?_, gLen, gO⟩
            have := ra2.put eb e1 (r.set t.2.1.toNat (if o > t.2.2 then o else t.2.2))
            rw [List.map_set] at this
            exact this
      · cases ur
    · have e1 : us.take xs.length = us := List.take_of_length_le (by omega)
      rw [e1, hup] at u2
      cases u2
      obtain ⟨G2, ext, rp⟩ := ra2.frz (K := Γ.K) s.sub
      obtain ⟨x, y, z, e2⟩ := set3 (l2.trans (by simp)) f2 (by simp; omega) (by simp; omega) (by simp; omega)
      subst e2
      have x0 := s.ext ext
      have x1 := x0.tr (x0.sr.setF lR rp)
      have x2 := x1.tr (x1.sr.setN iH x)
      have x3 := x2.tr (x2.sr.setN iL y)
      have x4 := x3.tr (x3.sr.setN iD z)
      have kk : Kept P σ ((((σ.set iR (some (V.ref Dd))).set iH x).set iL y).set iD z) := fun i hi => by
        rw [List.getElem?_set_ne (fun (e : iD = i) => hP.2.2.2 (e ▸ hi)), List.getElem?_set_ne (fun (e : iL = i) => hP.2.2.1 (e ▸ hi)), List.getElem?_set_ne (fun (e : iH = i) => hP.2.1 (e ▸ hi)), List.getElem?_set_ne (fun (e : iR = i) => hP.1 (e ▸ hi))]
      exact ⟨G2, _, x4.sr, Out.Post.imp h (fun f ρ2 q σ2 G2 H2 y2 k2 => (q σ2 G2 H2 (x4.tr y2) fun i hi => (k2 i hi).trans (kk i hi)).tr x4) fun c ρ' e => e.tr x4 kk⟩
end
end DL

/-! DLy: what the printed texts say of own exceptions; defs that call themselves. -/
namespace DL
open PySem PySem.Spec L2
/-- what is known of an own exception class that is raised, caught and asked about -/
structure XTop (K : PySem.W.Frag) (mg : Str → Option Value) (x : Str) (C : Addr) : Prop extends XCls K mg x C where
  ic : ExcC K C
  self : PySem.W.exmOne K (.ref C) (.ref C) = some true
theorem xtop_mk {K : PySem.W.Frag} {mg : Str → Option Value} {x : Str} {C : Addr} (g : mg x = some (.ref C)) (ex : PySem.W.excIn K C [.type "ValueError", .type "Exception", .type "BaseException", .type "object"] "ValueError.__new__" = true)
    (kp : PySem.W.keepIn K (.ref C) = true) (sb : PySem.W.subIn K (.ref C) (.type "BaseException") = some true) (ty : PySem.W.typeIn K (.ref C) = some (.type "type"))
    (hg : PySem.W.findIn K (.ref C) "__getattribute__" = some (some (.builtin "BaseException.__getattribute__"))) (hk : PySem.W.findIn K (.ref C) "__getattr__" = some none) (hd : PySem.W.hasDictIn K C = true)
    (ha : PySem.W.findIn K (.ref C) "__class__" = some (some (.builtin "object.__class__"))) (hn : PySem.W.specialIn K (.builtin "object.__class__") "__get__" = some (some (.builtin "getset_descriptor.__get__")))
    (ht : PySem.W.takesIn K (.builtin "object.__class__") = some true) (hm : PySem.W.mroIn K C (.type "object") = some true) (hself : PySem.W.subIn K (.ref C) (.ref C) = some true) : XTop K mg x C :=
  { g, ex, kp, sb, ty, ic := ⟨hg, hk, sb, hd, ha, hn, ht, hm⟩, self := PySem.W.exm_ref sb hd ty hself }
/-- except x: which errors it takes -/
def ctX (x : Str) (e : Exc) : Option Bool := if e.cls = x then some true else none
theorem ct_self {K : PySem.W.Frag} {mg : Str → Option Value} {x : Str} {C : Addr} (T : XTop K mg x C) : ∀ (e : Exc) (cls : Value) (d : Option Addr) (k : Bool), ExcN ⟨K, mg⟩ e cls d → ctX x e = some k → PySem.W.exmOne K cls (.ref C) = some k := fun e cls d k ⟨C', h1, h2, _⟩ hc => by
  unfold ctX at hc
  split at hc
  · rename_i ex
    cases hc
    rw [ex] at h1
    have h1 : mg x = some (.ref C') := h1
    rw [T.g] at h1
    cases h1
    rw [h2]
    exact T.self
  · cases hc
/-- isinstance(n, T), n the error of class x: b -/
def xIs (x : Str) (b : Bool) (e : Exc) : Option Bool := if e.cls = x ∧ e.args = [] then some b else none
theorem isX_facts {K : PySem.W.Frag} {mg : Str → Option Value} {x : Str} {C : Addr} {cv : Value} {b : Bool} (T : XTop K mg x C) (kit : PySem.W.kitOne K (.ref C) cv = some b) {e : Exc} {cls : Value} {d : Option Addr} {oe : Obj} (hz : L2N.Zn cls d oe) (he : ExcN ⟨K, mg⟩ e cls d) :
    ∀ b', xIs x b e = some b' → ExcC K C ∧ Zc (.ref C) none oe ∧ PySem.W.kitOne K (.ref C) cv = some b' := fun b' h => by
  unfold xIs at h
  split at h
  · rename_i ex
    cases h
    obtain ⟨C', h1, h2, h3⟩ := he
    rw [ex.1] at h1
    have h1 : mg x = some (.ref C') := h1
    rw [T.g] at h1
    cases h1
    have := hz.zc
    rw [h2, h3 ex.2] at this
    exact ⟨T.ic, this, kit⟩
  · cases h
theorem kit_refT {K : PySem.W.Frag} {C : Addr} {T : String} {b : Bool} (hm : PySem.W.kitMeta T = true) (h : PySem.W.subIn K (.ref C) (.type T) = some b) : PySem.W.kitOne K (.ref C) (.type T) = some b := by
  have e : ((Value.ref C == Value.type T) = true) = False := eq_false (by intro q; cases (beq_iff_eq.mp q))
  show (if (Value.ref C == Value.type T) = true then some true else (if PySem.W.kitMeta T = true then PySem.W.subIn K (.ref C) (.type T) else none)) = some b
  rw [if_neg (by rw [e]; exact id), if_pos hm]
  exact h
theorem FnG.never {P : Program} {w : World} {K : PySem.W.Frag} {mg : Str → Option Value} {base : Heap} {k : Nat} {f : Addr} {fd : FuncData} {ps : List Str} : FnG P w K mg base k f fd ps (fun _ => .bad) :=
  ⟨fun ss h => (by rcases h with ⟨_, _, z⟩ | ⟨_, _, z⟩ <;> cases z), fun A outer s H args us vs Q E hr hgd e0 hb rv ⟨G, ss, sr, post⟩ => post.elim⟩
theorem bind_star1' {fd : FuncData} {p1 pv : Str} (h0 : ∀ a, bindArgs fd ⟨[a], []⟩ = (newTuple [] >>= fun t => pure [(p1, a), (pv, t)])) (h1 : ∀ a r rs, bindArgs fd ⟨a :: r :: rs, []⟩ = (newTuple (r :: rs) >>= fun t => pure [(p1, a), (pv, t)])) :
    ∀ us rest : List Value, us.length = [p1].length → bindArgs fd ⟨us ++ rest, []⟩ = (newTuple rest >>= fun t => pure ([p1].zip us ++ [(pv, t)])) :=
  StX.bind_star1 (B := fun vs => bindArgs fd ⟨vs, []⟩) h0 h1
end DL

/-! DLz: sorted(xs), xs a list of tuples that compare place by place. -/
namespace DL
open PySem PySem.Spec L2
open PySem.W (alike dataLe AllAlike Sortable EachIs)
def tupNE : D → Bool
  | .tuple (_ :: _) => true
  | _ => false
def sortable (ds : List D) : Bool := (ds.all fun d => ds.all fun e => alike d e) && (ds.all tupNE && (ds.all SeqAt.shaped && decide (ds.length ≤ 16777216)))
def sortD (ds : List D) : List D := ds.mergeSort (dataLe false id)
/-- sorted(xs): ints, or tuples -/
def gSortX : List D → Option D
  | [.list ds] => match gSortI [.list ds] with
    | some z => some z
    | none => if sortable ds then some (.list (sortD ds)) else none
  | _ => none
def rSortDD (K : PySem.W.Frag) : List V → Hp → VK → Prop := fun xs H Q => ∃ (a : Addr) (vs : List V) (ds : List D) (G : Hp), xs = [.ref a] ∧ SqL K H a vs ∧ Sub G H ∧ RpAll K G vs ds ∧ sortable ds = true ∧
  ∀ (ys : List V) (p : Addr), RpAll K G ys (sortD ds) → H p = none → Q (.ref p) (upd H p (.lst ys))
section
variable {X : Cx} {pins : List (Addr × Obj)} {s : Shared} {σ : St} {G H : Hp}
theorem eachD (I : Inv X pins σ H s) (sg : Sub G H) : ∀ {vs : List V} {us : List Value} {ds : List D}, Vals vs us → RpAll X.K G vs ds → (∀ d ∈ ds, SeqAt.shaped d = true) →
    EachIs (fun u d => ∃ v, RelV v u ∧ Rp X.K G v d) us ds ∧ EachIs (fun u d => ∃ as, Reads s.heap u (id d) as) us ds
  | [], _, _, hv, hr, _ => by cases hv; cases hr; exact ⟨.nil, .nil⟩
  | v :: vs, _, _, hv, hr, hs => by
    cases hv with
    | cons hv1 hv2 =>
      cases hr with
      | cons hr1 hr2 =>
        obtain ⟨h1, h2⟩ := eachD I sg hv2 hr2 fun d hd => hs d (by simp [hd])
        obtain ⟨as, rd⟩ := Dp.reads I _ _ _ (hr1.dpH sg (hs _ (by simp))) hv1
        exact ⟨.cons ⟨v, hv1, hr1⟩ h1, .cons ⟨as, rd⟩ h2⟩
theorem eachV {K : PySem.W.Frag} : ∀ {us : List Value} {ds : List D}, EachIs (fun u d => ∃ v, RelV v u ∧ Rp K H v d) us ds → ∃ vs, Vals vs us ∧ RpAll K H vs ds
  | [], _, h => by cases h; exact ⟨[], .nil, .nil⟩
  | u :: us, _, h => by
    cases h with
    | cons h1 h2 =>
      obtain ⟨v, r1, r2⟩ := h1
      obtain ⟨vs, q1, q2⟩ := eachV h2
      exact ⟨v :: vs, .cons r1 q1, .cons r2 q2⟩
theorem cr_sortDD (hu : X.A.units + 67 < cLine) : CallR X (.builtin "sorted") (rSortDD X.K) := by
  intro pins s σ H vs us Q I r h
  obtain ⟨a, xs, ds, G, rfl, hs, sg, hr, hso, q⟩ := h
  obtain ⟨its, rv, hl, hz⟩ := I.list hs
  obtain ⟨u, rfl, ru⟩ := vals1 r
  obtain rfl : u = Value.ref a := ru
  unfold sortable at hso
  simp only [Bool.and_eq_true, decide_eq_true_eq] at hso
  obtain ⟨h1, h2, h3, h4⟩ := hso
  have shp : ∀ d ∈ ds, SeqAt.shaped d = true := fun d hd => List.all_eq_true.mp h3 d hd
  obtain ⟨e, er⟩ := eachD I sg rv hr shp
  have hal : AllAlike (ds.map id) := by
    rw [List.map_id]
    exact fun d hd d' hd' => List.all_eq_true.mp (List.all_eq_true.mp h1 d hd) d' hd'
  have hk : Sortable (ds.map id) := by
    rw [List.map_id]
    refine .inl fun d hd => ?_
    have := List.all_eq_true.mp h2 d hd
    unfold tupNE at this
    split at this
    · exact ⟨_, _, rfl⟩
    · cases this
  refine PySem.W.sorted_data (R := fun u d => ∃ v, RelV v u ∧ Rp X.K G v d) (enc := id) hl.isList e er hal hk (by rw [sizeLine_eq]; exact h4) (fun d hd => ?_) fun out ol eo => ?_
  · have := SeqAt.depth_of_shaped (shp d hd)
    show X.A.units + 2 + d.depth < cLine
    omega
  · obtain ⟨ys, hv, hr2⟩ := eachV eo
    obtain ⟨n, hn⟩ := PyProof.Rows.sortedAll_at s.heap its (List.toArray out)
    have hd : s.heap.objs.size ≤ s.heap.objs.size + 1 := Nat.le_succ _
    refine ⟨.ref (s.heap.objs.size + 1), upd H (s.heap.objs.size + 1) (.lst ys), I.laid (t' := s.toks) (fun b o e => PyProof.Rows.sortedAll_old e) hd ⟨?_, out, n, hv, hn⟩, rfl, q ys _ hr2 (I.hok.fresh hd)⟩
    rw [hv.length, ol, sizeLine_eq]; exact h4
end
def rSortX (K : PySem.W.Frag) : List V → Hp → VK → Prop := fun xs H Q => L2.rSortedI K xs H Q ∨ rSortDD K xs H Q
theorem cr_sortX {X : Cx} (hu : X.A.units + 67 < cLine) : CallR X (.builtin "sorted") (rSortX X.K) := cr_sortedI.or (cr_sortDD hu)
theorem sortX_n {K : PySem.W.Frag} : RNP K (rSortX K) gSortX := by
  intro G H xs ds z Q s r hz q
  unfold gSortX at hz
  split at hz
  · rename_i es
    split at hz
    · rename_i w hw
      cases hz
      exact .inl (sortI_n G H xs [.list es] z Q s r hw q)
    · split at hz
      · rename_i hc
        cases hz
        right
        cases r with | cons a b =>
        cases b
        cases a with | lst g r =>
        refine ⟨_, _, es, G, rfl, SqL.of (s _ _ g), s, r, hc, fun ys p hr np => ?_⟩
        have x := Ext0.new (o := .lst ys) s np
        exact q _ _ _ x (.lst upd_same (hr.mono x.g))
      · cases hz
  · cases hz
/-! ### xs.extend(t), t a tuple or a list -/
theorem ext_tup (l : Addr) (as : Array Value) (k : Nat) (t : Addr) (bs : Array Value) (j : Nat) (dt : Option Addr) (st : Array (Option Value)) (h0 : ¬(!as.isEmpty && Builtin.List.listTooLong (as.size + bs.size)) = true) (h1 : as.size ≤ sizeLine) (h2 : as.size + bs.size ≤ sizeLine + 1) :
    Meets (Builtin.«list.extend» ⟨[.ref l, .ref t], []⟩) (fun _ R s => s.heap.get? l = some { cls := .type "list", dict := none, data := .seq as k, slots := #[] } ∧ s.heap.get? t = some { cls := .type "tuple", dict := dt, data := .seq bs j, slots := st } ∧
      R (.ok (.ret Value.none)) { s with heap := s.heap.update l (Obj.mapSeq fun x => x ++ bs), toks := s.toks }) :=
  .of_wp fun prog w A R s h => by
    obtain ⟨hp, g, d, tk, os⟩ := s
    obtain ⟨gl, gt, q⟩ := h
    have e1 := AutoSeq1.idx_int
    have e2 := AutoSeq1.sub_tuple_tuple
    have e3 := AutoSeq1.sub_list_list
    have e4 := AutoSeq1.sub_tuple_list
    have e5 := AutoSeq1.sub_list_tuple
    have sz : (as ++ bs).size ≤ sizeLine + 1 := by rw [Array.size_append]; exact h2
    wp_walk using (wpAny_updateSeq gl rfl (hz := h1) (_hz' := sz)), wpAny_loadPart' gl, wpAny_loadPart' gt
    exact ⟨_, rfl, q⟩
def rExtT (K : PySem.W.Frag) : V → List V → Hp → VK → Prop := fun x vs H Q => ∃ (l t : Addr) (xs zs : List V), x = .ref l ∧ vs = [.ref t] ∧ H l = some (.lst xs) ∧ SqT K H t zs ∧ xs.length + zs.length ≤ sizeLine ∧ Q .non (upd H l (.lst (xs ++ zs)))
theorem mt_extT {X : Cx} : MtM X "list.extend" (rExtT X.K) := by
  intro pins s σ H x vs v us Q I rx rv h
  obtain ⟨l, t, xs, zs, e0, e1, hl, ht, hz, q⟩ := h
  subst e0 e1
  cases rx
  obtain ⟨u, rfl, ru⟩ := rv.one
  cases ru
  obtain ⟨z, its, n, r, hn, e⟩ := I.lstM hl
  obtain ⟨its2, r2, ⟨⟨oc, od, oda, osl⟩, ho, hc, n2, hd⟩, hz2⟩ := I.tuple ht
  simp only at hc hd
  subst hc hd
  have l2 := r2.length
  have sz : its.toArray.size + its2.toArray.size ≤ sizeLine := by rw [List.size_toArray, List.size_toArray]; omega
  have lg : ¬ (!its.toArray.isEmpty && Builtin.List.listTooLong (its.toArray.size + its2.toArray.size)) = true := by
    rw [notLongL sz, Bool.and_false]
    exact fun w => Bool.noConfusion w
  refine call_meets PySem.F.slot_list_extend ⟨_, e, rfl⟩ PySem.F.entry_list_extend (PySem.F.args_list_extend_2 _ _) (ext_tup l its.toArray n t its2.toArray n2 od osl lg (by rw [List.size_toArray]; omega) (by omega)) ⟨e, ho, ?_⟩
  refine ⟨.non, _, I.lset (its' := its ++ its2) hl e (by simp) (r.append r2) ?_, rfl, q⟩
  rw [List.length_append]
  omega
def rExt2 (K : PySem.W.Frag) : V → List V → Hp → VK → Prop := fun x vs H Q => rExtend x vs H Q ∨ rExtT K x vs H Q
theorem mt_ext2 {X : Cx} : MtM X "list.extend" (rExt2 X.K) := fun pins s σ H x vs v us Q I rx rv h => h.elim (mt_extend pins s σ H x vs v us Q I rx rv) (mt_extT pins s σ H x vs v us Q I rx rv)
def sExt2 (i : Nat) (mb : M D) : M Flw := slotL i fun _ => mb.bind fun d => slotL i fun ds => match itD d with
  | some es => if ds.length + es.length ≤ 16777216 then setL i (ds ++ es) else M.fail
  | none => M.fail
section
variable {X : Cx} {Γ : Gm} {W : WX} {P : List Nat} {i : Nat} {x : Str} {px pos : Pos} {b : Expr} {mb : M D}
theorem ds_ext2 {apos cpos : Pos} (hx : PE X (.Name x px) (tVar i)) (hb : PE X b (tD Γ W mb)) (hK : X.K = Γ.K := by rfl)
    (hbase : attributeBase (.Name x px) "extend" X.env (eval (.Name x px) X.env) = eval (.Name x px) X.env := by rfl)
    (hfew : ((backTo cpos (starEach [b] X.env)).all (fun x => !x.1) && (backToKw cpos (keywordEach [] X.env)).all (fun x => x.1.isSome) && decide (([b] : List Expr).length + ([] : List Keyword).length + (if ([] : List Keyword).isEmpty then 0 else 1) < 30)) = true := by rfl)
    (hline : (apos.endLine == cpos.line) = true := by rfl) (hs : starEach [b] X.env = (false, eval b X.env) :: starEach [] X.env := by rfl)
    (hsw : swapsWith (.Call (.Attribute (.Name x px) "extend" apos) [b] [] cpos) none pos.line X.env = pure false := by rfl) :
    PS X (.Expr (.Call (.Attribute (.Name x px) "extend" apos) [b] [] cpos) pos) (tS Γ W P (sExt2 i mb)) := by
  refine PS.imp (ps_expr (pe_bm PySem.F.plainAttrs_list PySem.F.slot_list_extend PySem.F.type_list_extend mt_ext2 hx (pa_cons hb pa_nil hs) hbase hfew hline hs rfl) hsw) fun D σ H ⟨G, ρ, s, h⟩ => ?_
  obtain ⟨ds0, e, h⟩ := slotL_post h
  obtain ⟨a, vs, e1, e2, _⟩ := s.ownL e
  refine ⟨.ref a, e1, .inl ⟨rfl, vs, SqL.of e2⟩, G, ρ, s, (post_bind.mp h).imp (fun d ρ2 h2 u G2 H2 x2 r2 => ?_) fun _ _ e => e.ew⟩
  obtain ⟨ds, f, h3⟩ := slotL_post h2
  cases hd : itD d with
  | none => simp only [hd] at h3; exact h3.elim
  | some es =>
    simp only [hd] at h3
    obtain ⟨hl, h4⟩ := ite_post h3
    obtain ⟨a', vs', g1, g2, g3⟩ := x2.sr.ownL f
    have g1' := g1
    rw [e1] at g1'; cases g1'
    cases d <;> first | cases hd | skip
    · cases r2 with | lst w1 w2 =>
      exact .inl ⟨a, _, _, _, rfl, rfl, g2, x2.sr.sub _ _ w1, size_line (by rw [g3.length, w2.length]; exact hl), h4 σ G2 _ (x2.tr (x2.sr.updO f g1 (.lst (g3.append w2)))) fun _ _ => rfl⟩
    · cases r2 with | tup w1 w2 =>
      exact .inr ⟨a, _, _, _, rfl, rfl, g2, by rw [hK]; exact x2.sr.sub.seqT w1, size_line (by rw [g3.length, w2.length]; exact hl), h4 σ G2 _ (x2.tr (x2.sr.updO f g1 (.lst (g3.append w2)))) fun _ _ => rfl⟩
end
theorem sExt2_ok {i : Nat} {mb : M D} {d : D} {ds es : List D} {ρ ρ1 : Rho} (h : ρ[i]? = some (.own (.lst ds))) (hb : mb ρ = .ok d ρ1) (hd : itD d = some es) (h1 : ρ1[i]? = some (.own (.lst ds))) (hl : ds.length + es.length ≤ 16777216) : sExt2 i mb ρ = .ok .next (ρ1.set i (.own (.lst (ds ++ es)))) := by
  unfold sExt2 slotL; simp only [h]; rw [bind_ok hb]; simp only [h1, hd, if_pos hl]; rfl
theorem hu67 {A : Around} {k : Nat} (hr : Room k A) : A.units + 67 < cLine := by have := hr.un; omega
end DL

/-! DHa: while an exception is handled: the ends of walks over lists and tuples, a tuple taken apart. -/
namespace DL
open PySem PySem.Spec L2 PyProof.Rows
open HotX (HotAt raiseNew_hot)
section
variable {prog : Program} {w : World} {A : Around} {E : Value → Shared → Prop} {s : Shared}
/-- StopIteration is made, raised and taken, an exception x1 being handled -/
theorem stop_hot {α : Type} {x1 : Addr} {Q : Option Value → Shared → Prop} (hot : HotAt A x1 s.heap)
    (q : ∀ h', (∀ b u, s.heap.get? b = some u → h'.get? b = some u) → Q none { s with heap := h' }) :
    wpAny (model prog w) A (newExc (.type "StopIteration") [] >>= fun e => (raiseNew e : Sem α)) (fun _ _ => False) (fun e s' => ∃ a, e = .ref a ∧ (∃ o, s'.heap.get? a = some o ∧ o.cls = .type "StopIteration") ∧ Q none s') s := by
  obtain ⟨hh, o1, vs1, g1, d1, c1⟩ := hot
  refine wpAny_bind ?_
  simp only [newExc, newTuple]
  refine wpAny_bind (wpAny_newObj_type ?_ (by size_fits))
  refine wpAny_bind (m := firstArgMember _ _) (wpAny_of_eq (a := Value.none) (by first | rfl | (simp only [firstArgMember]; rfl)) ?_)
  refine wpAny_newObj_type ?_ (by size_fits)
  have k1 := fun (b : Addr) (u : Obj) (e : s.heap.get? b = some u) => Heap.get?_push_of_some ({ cls := .type "tuple", data := .seq #[] } : Obj) e
  refine raiseNew_hot (x1 := x1) ⟨hh, o1, vs1, Heap.get?_push_of_some _ (Heap.get?_push_of_some _ g1), d1, c1⟩ (Nat.ne_of_lt (Heap.lt_size (Heap.get?_push_of_some _ g1))) (Heap.get?_push_size _ rfl) rfl (by first | (simp; done) | (simp; omega) | (simp only [Array.size_append]; simp; omega)) ?_
  refine ⟨_, rfl, ⟨_, Heap.get?_update_self _ (Heap.get?_push_size _ rfl) rfl, rfl⟩, q _ fun b u e => ?_⟩
  rw [Heap.get?_update_other _ _ (Nat.ne_of_gt (Heap.lt_size (Heap.get?_push_of_some _ e)))]
  exact Heap.get?_push_of_some _ (Heap.get?_push_of_some _ e)
theorem end_list_hot {it l x1 : Addr} {i : Nat} {xs : Array Value} {Q : Option Value → Shared → Prop} (hot : HotAt A x1 s.heap) (ne : x1 ≠ it) (hi : s.heap.IsListIter it l i) (hl : s.heap.IsList l xs) (hx : xs[i]? = none)
    (hQ : ∀ h', Heap.ExtBut it s.heap h' → Q none { s with heap := h' }) : wpAny (model prog w) A (pyNext (.ref it)) Q E s := by
  obtain ⟨oi, gi, ci, di⟩ := id hi
  obtain ⟨ol, gl, _, nl, dl⟩ := hl
  obtain ⟨hh, o1, vs1, g1, d1, c1⟩ := hot
  unfold pyNext
  refine wpAny_bind (wpAny_attempt (wpAny_callSpecial?_slot (name := Str.ofString "__next__") hi.typeIs slot_listiter_next (wpAny_call_entry slot_listiter_next hi.typeIs entry_listiter_next ?_ (args_listiter_next _))))
  show wpAny _ _ (field (.ref it) 0 >>= _) _ _ s
  refine wpAny_bind (wpAny_field gi di (x := .ref l) rfl ?_)
  show wpAny _ _ (if (Value.ref l == Value.none) = true then _ else _) _ _ s
  have nn : ¬ ((Value.ref l == Value.none) = true) := Bool.false_ne_true
  rw [if_neg nn]
  show wpAny _ _ (field (.ref it) 1 >>= _) _ _ s
  refine wpAny_bind (wpAny_field gi di (x := .int i 0) rfl (wpAny_bind (wpAny_seqItems gl dl ?_)))
  simp only [Int.toNat_natCast, hx]
  refine wpAny_bind (wpAny_rule (wpAny_bind (wpAny_setField gi di (by simp) ?_)))
  have sb : Heap.SameBut it s.heap (s.heap.update it (Obj.mapFields (·.setIfInBounds 0 .none))) := Heap.SameBut.update ..
  show wpAny _ _ (newExc (.type "StopIteration") [] >>= fun e => (raiseNew e : Sem PySem.Fin)) _ _ _
  refine wpAny_mono (stop_hot (A := A.in1) (x1 := x1) (Q := Q) ⟨hh, o1, vs1, (sb.2 x1 ne).trans g1, d1, c1⟩ ?_) (fun _ _ z => False.elim z) (fun e s' he => ?_)
  · exact fun h' k => hQ h' fun b o nb e => k b o ((sb.2 b nb).trans e)
  obtain ⟨a, ea, ho, q⟩ := he
  subst ea
  exact wpAny_bind (wpAny_isInstance (T := "StopIteration") (b := true) ho isSubtype_stop (wpAny_pure q))
theorem end_tup_hot {it t x1 : Addr} {i : Nat} {xs : Array Value} {Q : Option Value → Shared → Prop} (hot : HotAt A x1 s.heap) (ne : x1 ≠ it) (hi : IsTupIter s.heap it t i) (ht : IsTup s.heap t xs) (hx : xs[i]? = none)
    (hQ : ∀ h', Heap.ExtBut it s.heap h' → Q none { s with heap := h' }) : wpAny (model prog w) A (pyNext (.ref it)) Q E s := by
  obtain ⟨oi, gi, ci, di⟩ := id hi
  obtain ⟨ot, gt, _, nt, dt⟩ := ht
  obtain ⟨hh, o1, vs1, g1, d1, c1⟩ := hot
  unfold pyNext
  refine wpAny_bind (wpAny_attempt (wpAny_callSpecial?_slot (name := Str.ofString "__next__") hi.typeIs slot_tupleiter_next (wpAny_call_entry slot_tupleiter_next hi.typeIs entry_tupleiter_next ?_ (args_tupleiter_next _))))
  show wpAny _ _ (field (.ref it) 0 >>= _) _ _ s
  refine wpAny_bind (wpAny_field gi di (x := .ref t) rfl ?_)
  show wpAny _ _ (if (Value.ref t == Value.none) = true then _ else _) _ _ s
  have nn : ¬ ((Value.ref t == Value.none) = true) := Bool.false_ne_true
  rw [if_neg nn]
  show wpAny _ _ (field (.ref it) 1 >>= _) _ _ s
  refine wpAny_bind (wpAny_field gi di (x := .int i 0) rfl (wpAny_bind (wpAny_seqItems gt dt ?_)))
  simp only [Int.toNat_natCast, hx]
  refine wpAny_bind (wpAny_rule (wpAny_bind (wpAny_setField gi di (by simp) ?_)))
  have sb : Heap.SameBut it s.heap (s.heap.update it (Obj.mapFields (·.setIfInBounds 0 .none))) := Heap.SameBut.update ..
  show wpAny _ _ (newExc (.type "StopIteration") [] >>= fun e => (raiseNew e : Sem PySem.Fin)) _ _ _
  refine wpAny_mono (stop_hot (A := A.in1) (x1 := x1) (Q := Q) ⟨hh, o1, vs1, (sb.2 x1 ne).trans g1, d1, c1⟩ ?_) (fun _ _ z => False.elim z) (fun e s' he => ?_)
  · exact fun h' k => hQ h' fun b o nb e => k b o ((sb.2 b nb).trans e)
  obtain ⟨a, ea, ho, q⟩ := he
  subst ea
  exact wpAny_bind (wpAny_isInstance (T := "StopIteration") (b := true) ho isSubtype_stop (wpAny_pure q))
theorem unpack_hot {t x1 : Addr} {xs : Array Value} {tgs : List (Bool × (Value → Sem Unit))} {Q : Unit → Shared → Prop} (hot : HotAt A x1 s.heap) (ht : IsTup s.heap t xs) (hn : tgs.length = xs.size) (hst : tgs.findIdx? (·.1) = none)
    (q : ∀ h', Heap.ExtBut s.heap.objs.size s.heap h' → wpAny (model prog w) A (assignInOrder (tgs.map (·.2)) xs.toList) Q E { s with heap := h' }) : wpAny (model prog w) A (unpack (.ref t) tgs) Q E s := by
  have lt : t ≠ s.heap.objs.size := by obtain ⟨o, g, _⟩ := ht; exact Nat.ne_of_lt (Heap.lt_size g)
  obtain ⟨hh, o1, vs1, g1, d1, c1⟩ := hot
  have l1 : x1 ≠ s.heap.objs.size := Nat.ne_of_lt (Heap.lt_size g1)
  unfold unpack
  rw [hn, hst]
  refine wpAny_bind (wpAny_holding ?_)
  unfold unpackItems
  refine wpAny_bind ?_
  unfold notIterableAtAll
  refine wpAny_bind (wpAny_specialOf ht.typeIs slot_tuple_iter.lookup (wpAny_pure ?_))
  simp only [Bool.false_eq_true, if_false]
  refine wpAny_bind (wpAny_holding (iter_tuple ht ?_))
  refine wpAny_bind (wpAny_holding (draw_tuple lt xs.size 0 _ _ ⟨_, Heap.get?_push_size _ rfl, rfl, rfl⟩ (ht.push _) (by omega) fun h1 i1 s1 => ?_))
  rw [show List.take xs.size (List.drop 0 xs.toList) = xs.toList by rw [List.drop_zero]; exact List.take_of_length_le (by simp), if_neg (by simp)]
  refine wpAny_bind (wpAny_holding (end_tup_hot (x1 := x1) ⟨hh, o1, vs1, (s1.2 x1 l1).trans (Heap.get?_push_of_some _ g1), d1, c1⟩ l1 i1 ((ht.push _).extBut s1.extBut lt) (by simp) fun h2 e2 => ?_))
  simp only [Option.isSome_none, Bool.false_eq_true, if_false]
  exact wpAny_pure (q h2 fun b o nb e => e2 b o nb (s1.extBut b o nb (Heap.get?_push_of_some _ e)))
theorem assign_hot {env : Env} {elts : List Expr} {k} {pos : Pos} {t x1 : Addr} {xs : Array Value} {Q : Unit → Shared → Prop} (hot : HotAt A x1 s.heap) (ht : IsTup s.heap t xs) (hn : (assignEach elts env).length = xs.size) (hst : (assignEach elts env).findIdx? (·.1) = none)
    (q : ∀ h', Heap.ExtBut s.heap.objs.size s.heap h' → wpAny (model prog w) A (assignInOrder ((assignEach elts env).map (·.2)) xs.toList) Q E { s with heap := h' }) : wpAny (model prog w) A (assign (.Tuple elts k pos) env (.ref t)) Q E s := by
  rw [assign_Tuple]
  exact wpAny_bind (wpAny_standAt (unpack_hot hot ht hn hst q))
end
open L2H (HotC Hot1 TurnH PIH PIEH)
section
theorem hot_ne {X : Cx} {pins : List (Addr × Obj)} {σ : L2.St} {H : Hp} {s : Shared} {it : Addr} (hc : HotC X) (I : Inv X pins σ H s) (f : ∀ p ∈ X.pn ++ pins, p.1 ≠ it) : ∃ x1, HotAt X.A x1 s.heap ∧ x1 ≠ it := by
  obtain ⟨x1, ht⟩ := hc.at I
  obtain ⟨p, ⟨h1, _⟩, hp⟩ := hc
  refine ⟨x1, ht, fun e => f p (List.mem_append_left _ hp) ?_⟩
  have := ht.1.symm.trans h1
  cases this
  exact e
theorem turn_lstH {P : Program} {w : World} {K : PySem.W.Frag} {tg : Expr} (a it : Addr) : TurnH P w K tg (Itl K a) [it] it (fun i h => h.IsListIter it a i) where
  mem := (turn_list (P := P) (w := w) (K := K) (tg := tg) a it).mem
  obj := (turn_list (P := P) (w := w) (K := K) (tg := tg) a it).obj
  keep := (turn_list (P := P) (w := w) (K := K) (tg := tg) a it).keep
  self := (turn_list (P := P) (w := w) (K := K) (tg := tg) a it).self
  item := by
    intro X hP hw hK _ i pins s σ H E I hf st ⟨xs, x, gq, gx⟩
    subst hP hw hK
    obtain ⟨its, rv, p, _⟩ := I.list gq
    obtain ⟨u, gu, ru⟩ := rv.get gx
    obtain ⟨k0, k1, k2, k3, k4, k5⟩ := hf it (List.mem_singleton.mpr rfl)
    refine wpAny_pyNext_list_item st p.isList (by simpa using gu : its.toArray[i]? = some u) fun h1 st1 sb => ?_
    have J : Inv X pins σ H { s with heap := h1 } := I.turned (t' := s.toks) (fun b o nb e => (sb.2 b nb).trans e) k0 k1 k3 k4 k5
    obtain ⟨o, e, c, d⟩ := id st1
    refine ⟨u, rfl, go_of (s := { s with heap := h1 }) e c d (by decide) ⟨x, H, J, ru, ⟨rfl, fun ys hy => ?_⟩, st1, fun b hb => (hf b hb).1⟩⟩
    rw [I.list_inj hy gq]; exact gx
  done := by
    intro X hP hw hK hc i pins s σ H E I hf st ⟨xs, gq, gx⟩
    subst hP hw hK
    obtain ⟨its, rv, p, _⟩ := I.list gq
    obtain ⟨k0, k1, k2, k3, k4, k5⟩ := hf it (List.mem_singleton.mpr rfl)
    have hl := rv.length
    obtain ⟨x1, ht, ne⟩ := hot_ne hc I k5
    exact end_list_hot ht ne st p.isList (by simp; omega) fun h1 eb => ⟨rfl, I.turned (t' := s.toks) (fun b o nb e => eb b o nb e) k0 k1 k3 k4 k5⟩
theorem turn_tupH {P : Program} {w : World} {K : PySem.W.Frag} {tg : Expr} (a it : Addr) : TurnH P w K tg (Itt K a) [it] it (fun i h => h.IsTupleIter it a i) where
  mem := (turn_tuple (P := P) (w := w) (K := K) (tg := tg) a it).mem
  obj := (turn_tuple (P := P) (w := w) (K := K) (tg := tg) a it).obj
  keep := (turn_tuple (P := P) (w := w) (K := K) (tg := tg) a it).keep
  self := (turn_tuple (P := P) (w := w) (K := K) (tg := tg) a it).self
  item := by
    intro X hP hw hK _ i pins s σ H E I hf st ⟨xs, x, gq, gx⟩
    subst hP hw hK
    obtain ⟨its, rv, p, _⟩ := I.tuple gq
    obtain ⟨u, gu, ru⟩ := rv.get gx
    obtain ⟨k0, k1, k2, k3, k4, k5⟩ := hf it (List.mem_singleton.mpr rfl)
    refine wpAny_pyNext_tuple_item st (show s.heap.IsTuple a its.toArray from p) (by simpa using gu : its.toArray[i]? = some u) fun h1 st1 sb => ?_
    have J : Inv X pins σ H { s with heap := h1 } := I.turned (t' := s.toks) (fun b o nb e => (sb.2 b nb).trans e) k0 k1 k3 k4 k5
    obtain ⟨o, e, c, d⟩ := id st1
    refine ⟨u, rfl, go_of (s := { s with heap := h1 }) e c d (by decide) ⟨x, H, J, ru, ⟨rfl, fun ys hy => ?_⟩, st1, fun b hb => (hf b hb).1⟩⟩
    rw [I.tuple_inj hy gq]; exact gx
  done := by
    intro X hP hw hK hc i pins s σ H E I hf st ⟨xs, gq, gx⟩
    subst hP hw hK
    obtain ⟨its, rv, p, _⟩ := I.tuple gq
    obtain ⟨k0, k1, k2, k3, k4, k5⟩ := hf it (List.mem_singleton.mpr rfl)
    have hl := rv.length
    obtain ⟨x1, ht, ne⟩ := hot_ne hc I k5
    exact end_tup_hot ht ne st p (by simp; omega) fun h1 eb => ⟨rfl, I.turned (t' := s.toks) (fun b o nb e => eb b o nb e) k0 k1 k3 k4 k5⟩
/-- (a, b, ..) = a tuple, an exception being handled -/
theorem pg_tupH {X : Cx} {es : List Expr} {k : Nat} {t : TGs} {n : Nat} {pos : Pos} (hc : HotC X) (h : PGs X es t) (hn : (assignEach es X.env).length = n := by rfl) (hst : (assignEach es X.env).findIdx? (·.1) = none := by rfl) : PG X (.Tuple es k pos) (L2.gTup X.K n t) := by
  refine ⟨fun pins s σ H v u Q I r ⟨a, xs, e1, gq, gl, q⟩ => ?_⟩
  subst e1
  cases r
  obtain ⟨its, rv, ht, _⟩ := I.tuple gq
  obtain ⟨x1, hot⟩ := hc.at I
  refine assign_hot hot ht (by simp [hn, ← gl, rv.length]) hst fun h1 hx => ?_
  have J : Inv X pins σ H { s with heap := h1 } := I.kept (t' := s.toks) fun b o e => hx b o (Nat.ne_of_lt (Heap.lt_size e)) e
  exact h.run pins _ σ H xs _ Q J (by simpa using rv) q
end
/-! ### over data -/
section
variable {X : Cx} {Γ : Gm} {W : WX} {P : List Nat} {tg e : Expr} {m : M D} {pos : Pos}
theorem di_seqH (he : PE X e (tD Γ W m)) (hK : X.K = Γ.K := by rfl) : PIH X tg e (tI Γ W (iSeq m)) := by
  refine ⟨fun pins s σ H R I ⟨G, ρ, sr, h⟩ => ?_⟩
  have h' := post_bind.mp h
  refine thn (he.run pins s σ H (fun x H1 => ∃ G1 ρ1 d ds, Stp Γ.K G H σ ρ G1 H1 σ ρ1 ∧ Rp Γ.K G1 x d ∧ itD d = some ds ∧ ∀ J, ItOk Γ.K J ds G1 → R J H1) I ⟨G, ρ, sr, h'.imp (fun d ρ1 h1 v G1 H1 x1 r1 => ?_) fun _ _ e => e⟩)
    fun v s1 ⟨x, H1, I1, r1, G1, ρ1, d, ds, x1, rp, e, q⟩ => ?_
  · obtain ⟨ds, e, q⟩ := opt_post h1
    exact ⟨G1, ρ1, d, ds, x1, r1, e, fun J ok => q J G1 H1 x1 ok⟩
  · have fp : ∀ {σ' : L2.St} {H' : Hp} {s' : Shared}, Inv X pins σ' H' s' → ∀ b ∈ [s'.heap.objs.size], FpOk X pins H' b := fun {σ' H' s'} J b hb => by
      have e : b = s'.heap.objs.size := by simpa using hb
      subst e
      exact J.fpOk (Nat.le_refl _) (J.hok.fresh (Nat.le_refl _))
    cases d <;> first | cases e | skip
    · cases rp with | lst g r =>
      cases r1
      obtain ⟨its, rv, p, hz⟩ := I1.list (SqL.of (x1.sr.sub _ _ g))
      refine wpAny_pyIter_list p.isList ?_
      exact ⟨s1.heap.objs.size, [s1.heap.objs.size], _, _, H1, rfl, I1.kept (t' := s1.toks) fun b o e => Heap.get?_push_of_some _ e, turn_lstH _ _, ⟨_, Heap.get?_push_size _ rfl, rfl, rfl⟩, fp I1, by rw [hK]; exact q _ (itOk_list g r hz)⟩
    · cases rp with | tup g r =>
      cases r1
      obtain ⟨its, rv, p, hz⟩ := I1.tuple (by rw [hK]; exact x1.sr.sub.seqT g)
      refine wpAny_pyIter_tuple (show s1.heap.IsTuple _ its.toArray from p) ?_
      exact ⟨s1.heap.objs.size, [s1.heap.objs.size], _, _, H1, rfl, I1.kept (t' := s1.toks) fun b o e => Heap.get?_push_of_some _ e, turn_tupH _ _, ⟨_, Heap.get?_push_size _ rfl, rfl, rfl⟩, fp I1, by rw [hK]; exact q _ (itOk_tup g r hz)⟩
-- as ds_for, dg_tp
theorem dg_tpH {es : List Expr} {k : Nat} {gs : List Tg} (hc : HotC X) (h : PGs X es (tGs Γ gs)) (hK : X.K = Γ.K := by rfl)
    (hn : (assignEach es X.env).length = gs.length := by rfl) (hst : (assignEach es X.env).findIdx? (·.1) = none := by rfl) : PG X (.Tuple es k pos) (tG Γ (.tp gs)) := by
  refine PG.imp (pg_tupH (n := gs.length) hc h hn hst) fun v σ H Q ⟨G, ρ, d, ρ', s, r, e, q⟩ => ?_
  unfold Tg.set at e
  split at e
  · rename_i ds
    split at e
    · rename_i hl
      cases r with
      | tup rs ra => exact ⟨_, _, rfl, by rw [hK]; exact s.sub.seqT rs, ra.length.trans hl, G, ρ, ds, ρ', s, ra, e, fun σ' x k => q σ' x fun i hi => k i (by simpa [Tg.ix] using hi)⟩
    · cases e
  · cases e
theorem ds_forH {tg iter : Expr} {body : List Stmt} {mi : M (List D)} {g : Tg} {mb : M Flw} (hp : PassesOwn (model X.prog X.w) X.A X.env X.xe) (hc : HotC X) (hi : PIH X tg iter (tI Γ W mi)) (hg : PG X tg (tG Γ g)) (hb : PSs X body (tS Γ W P mb))
    (hP : ∀ i ∈ P, i ∉ g.ix) (hs : ∀ x, foldedSetIterable iter X.env x = pure x := by intro _; rfl) : PS X (.For tg iter body [] pos) (tS Γ W P (sFor mi g mb)) := by
  refine PS.imp (L2H.ps_forH hp hc hi hg hb hs) fun D σ H ⟨G, ρ, s, h⟩ => ⟨G, ρ, s, (post_bind.mp h).imp (fun ds ρ1 h1 J G1 H1 x1 ok => ?_) fun c ρ' e => e.ew⟩
  -- the invariant: what is left of the walk
  refine ⟨fun i m σ' H' => m = ds.length - i ∧ i ≤ ds.length ∧ ∃ G' ρ', Sub G1 G' ∧ Stp Γ.K G H σ ρ G' H' σ' ρ' ∧ Kept P σ σ' ∧
      (forL g mb (ds.drop i) ρ').Post (fun f ρ2 => ∀ σ2 G2 H2, Stp Γ.K G H σ ρ G2 H2 σ2 ρ2 → Kept P σ σ2 → FlwOk Γ.K G H σ ρ G2 H2 σ2 ρ2 D f) (EWs Γ W P G H σ ρ), ⟨_, rfl, Nat.zero_le _, G1, ρ1, Sub.rfl, x1, fun _ _ => rfl, h1⟩, ?_⟩
  rintro i m σ' H' ⟨rfl, hi, G', ρ', sg, x, k, q⟩
  by_cases hlt : i < ds.length
  · right
    rw [List.drop_eq_getElem_cons hlt] at q
    obtain ⟨go, yl⟩ := ok.at_ i G' H' ds[i] sg x.sr.sub (List.getElem?_eq_getElem hlt)
    refine ⟨go, fun σ2 H2 => ∃ G2 ρ2, Sub G1 G2 ∧ Stp Γ.K G H σ ρ G2 H2 σ2 ρ2 ∧ Kept P σ σ2 ∧
      (forL g mb (ds.drop (i + 1)) ρ2).Post (fun f ρ2 => ∀ σ2 G2 H2, Stp Γ.K G H σ ρ G2 H2 σ2 ρ2 → Kept P σ σ2 → FlwOk Γ.K G H σ ρ G2 H2 σ2 ρ2 D f) (EWs Γ W P G H σ ρ),
      fun σ2 H2 ⟨G2, ρ2, s2, x2, k2, q2⟩ => ⟨ds.length - (i + 1), by omega, rfl, hlt, G2, ρ2, s2, x2, k2, q2⟩, fun v H2 yv => ?_⟩
    obtain ⟨G2, e2, r2⟩ := yl v H2 yv
    have y2 := x.sr.ext e2
    unfold forL at q
    cases hg : g.set ds[i] ρ' with
    | none => simp only [hg] at q; exact q.elim
    | some ρ3 =>
      simp only [hg] at q
      refine ⟨G2, ρ', ds[i], ρ3, y2.sr, r2, hg, fun σ3 x3 k3 => ?_⟩
      have x4 := (x.tr y2).tr x3
      have k4 : Kept P σ σ3 := fun j hj => (k3 j (hP j hj)).trans (k j hj)
      refine ⟨G2, ρ3, x3.sr, ?_⟩
      cases hb : mb ρ3 with
      | bad => simp only [hb] at q; exact q.elim
      | err c ρ4 =>
        simp only [hb] at q
        exact EWs.tr x4 k4 q
      | ok f ρ4 =>
        simp only [hb] at q
        intro σ5 G5 H5 x5 k5
        have xx := x4.tr x5
        have kk : Kept P σ σ5 := fun j hj => (k5 j hj).trans (k4 j hj)
        cases f with
        | next => exact ⟨G5, ρ4, (sg.tr e2.g).tr x5.fr.ext, xx, kk, q⟩
        | cont => exact ⟨G5, ρ4, (sg.tr e2.g).tr x5.fr.ext, xx, kk, q⟩
        | brk => exact q σ5 G5 H5 xx kk
        | ret r => exact fun u hu => (q σ5 G5 H5 xx kk) u (RvOk.tr x4 hu)
  · left
    have e : i = ds.length := by omega
    subst e
    refine ⟨ok.fin G' H' sg x.sr.sub, ?_⟩
    rw [List.drop_length] at q
    exact q σ' G' H' x k
end
end DL

/-! DHb: defs that are called while an exception is handled. -/
namespace DL
open PySem PySem.Spec L2
open PyProof.Rows (envOfC)
open L2H (RoomH Hot1 PinOk HotC cxH inv_startH)
/-- p is the handled exception, and what is known of it -/
structure HotX1 (K : PySem.W.Frag) (mg : Str → Option Value) (A : Around) (p : Addr × Obj) (e : Exc) (cls : Value) (d : Option Addr) : Prop where
  hot : Hot1 A p
  zn : L2N.Zn cls d p.2
  fl : ∃ vs, p.2.data = .fields vs
  ex : ExcN ⟨K, mg⟩ e cls d
structure FnHG (P : Program) (w : World) (K : PySem.W.Frag) (mg : Str → Option Value) (base : Heap) (k : Nat) (f : Addr) (fd : FuncData) (ps : List Str) (F : Addr → Exc → M Slot) : Prop where
  len : ∀ a e ss, (∃ r ss', F a e ss = .ok r ss') ∨ (∃ c ss', F a e ss = .err c ss') → ss.length = ps.length
  go : ∀ (A : Around) (outer : List Env) (s : Shared) (H : Hp) (args : Args) (us : List Value) (vs : List V) (Q : VK) (E : XK) (p : Addr × Obj) (e : Exc) (cls : Value) (d : Option Addr), RoomH k A → A.guards = some [] → HotX1 K mg A p e cls d → PinOk outer H s p → Env0 P w K mg base A outer s H →
    BindsTo s fd args (ps.zip us) → Vals vs us → spF ⟨K, mg⟩ (F p.1 e) vs H Q E → codeAny (model P w) A (.call (.ref f) args) (CR (L2N.CX P w) outer P w H s Q E) s
theorem FnHG.up {P : Program} {w : World} {K : PySem.W.Frag} {mg : Str → Option Value} {base : Heap} {j k : Nat} {f : Addr} {fd : FuncData} {ps : List Str} {F : Addr → Exc → M Slot} (h : FnHG P w K mg base j f fd ps F) (le : j ≤ k) : FnHG P w K mg base k f fd ps F :=
  ⟨h.len, fun A outer s H args us vs Q E p e cls d hr => h.go A outer s H args us vs Q E p e cls d (hr.mono le)⟩
/-- the body of such a def -/
theorem fn_bodyH {P : Program} {w : World} {K : PySem.W.Frag} {mg : Str → Option Value} {base : Heap} {k : Nat} {f : Addr} {x qual : Str} {st : Stmt} {fd : FuncData} {N ps : List Str} {Pr : List Nat} {b : Addr → Exc → M Flw} {n : Nat} (F : Fun K x qual st f fd) (S : FnScope N ps (defScope st)) (hn : n = ps.length)
    (hbody : ∀ (cdv : Value) (A : Around) (outer : List Env) (s : Shared) (H : Hp) (E : XK) (p : Addr × Obj) (e : Exc) (cls : Value) (d : Option Addr), RoomH k (A.deeper (envOfC qual (defScope st) s.heap.objs.size f cdv)) → (A.deeper (envOfC qual (defScope st) s.heap.objs.size f cdv)).guards = some [] → HotX1 K mg A p e cls d →
      PSs (cxH (L2N.CX P w) P w K mg base N qual (defScope st) f cdv A outer s H E p) (defBody st) (tS ⟨K, mg⟩ (fun cls dx _ H' => E cls dx H') Pr (b p.1 e))) :
    FnHG P w K mg base (k + 1) f fd ps (fun a e ss => if ownIn Pr ss then fnM n N.length (b a e) ss else .bad) := by
  subst hn
  have hlen : ∀ a e ss, (∃ r ss', (fun ss => if ownIn Pr ss = true then fnM ps.length N.length (b a e) ss else Out.bad) ss = .ok r ss') ∨ (∃ c ss', (fun ss => if ownIn Pr ss = true then fnM ps.length N.length (b a e) ss else Out.bad) ss = .err c ss') → ss.length = ps.length := fun a e ss h => by
    by_cases q : ownIn Pr ss = true
    · simp only [q, if_true] at h
      exact fnM_len h
    · simp only [q, Bool.false_eq_true, if_false] at h
      rcases h with ⟨_, _, z⟩ | ⟨_, _, z⟩ <;> cases z
  refine ⟨hlen, fun A outer s H args us vs Q E p e cls d hr hgd hx hpin e0 hb rv hsp => ?_⟩
  obtain ⟨oc, od, kV, doc, pm, an, cdv, ct, osl, rfl, lk, hcd⟩ := F.ex
  have hl : vs.length = ps.length := spF.len (hlen p.1 e) hsp
  have KX : K.In s.heap := e0.mod.kin.keeps fun b o e => (e0.bs b o e).1
  have lim : s.heap.NoLimit := e0.mod.nolimit.keeps fun b o e => (e0.bs b o e).1
  have hkind : ∀ y ∈ ps.zip us, (defScope st).names.lookup y.1 = some .local ∨ ((defScope st).names.lookup y.1 = some .cell ∧ ((cellsFrom (s.heap.objs.size + 1) (defScope st).names []).lookup y.1).isSome = true) := fun y hy =>
    (S.par y.1 (List.of_mem_zip hy).1).imp id fun q => ⟨q, PySem.W.cellsFrom_some _ _ _ (.inl q)⟩
  refine codeAny_call_function hr.depth (KX _ _ lk) rfl S.co S.gen rfl (PySem.W.codeRec_of KX hcd) (hb _ _ _ _ ?_)
  refine wpAny_newFunctionEnv_cells S.kind hkind fun env he s1 xx => ?_
  subst he
  refine ⟨lim.keeps xx.toInCall.keep, codeAny_func ?_⟩
  have ht := hbody cdv A outer s H E p e cls d (hr.deeper _) (by rw [guards_deeper]; exact hgd) hx
  have I : Inv (cxH (L2N.CX P w) P w K mg base N qual (defScope st) f cdv A outer s H E p) [] (start N vs) H s1 := inv_startH S hpin e0 hl rv xx
  obtain ⟨G, ss, sr, post⟩ := hsp
  have hpl : ps.length ≤ N.length := by have := congrArg List.length S.pre; rw [List.length_take] at this; omega
  have hN : vs.length ≤ N.length := by omega
  have hss : vs.length = ss.length := by have := sr.len; rwa [List.length_map] at this
  by_cases hO : ownIn Pr ss = true
  · simp only [hO, if_true] at post
    have main : tS ⟨K, mg⟩ (fun cls dx _ H' => E cls dx H') Pr (b p.1 e) { nx := fun _ H' => Q .non H', rt := Q } (start N vs) H := body_main sr hl hN hO post
    refine wpAny_mono (ht.run [] s1 (start N vs) H _ I main) (fun fl s' hs => ?_) fun _ s' hs => hs
    cases fl with
    | ret u =>
      obtain ⟨v, σ', H', J, rv', q⟩ := hs
      exact ⟨v, H', J.os, J.bare, J.base, J.hok, rv', q⟩
    | next =>
      obtain ⟨σ', H', J, q⟩ := hs
      exact ⟨V.non, H', J.os, J.bare, J.base, J.hok, rfl, q⟩
    | brk => obtain ⟨_, _, _, q⟩ := hs; exact q.elim
    | cont => obtain ⟨_, _, _, q⟩ := hs; exact q.elim
  · simp only [hO, Bool.false_eq_true, if_false] at post
    exact post.elim
section
variable {X : Cx} {Γ : Gm} {W : WX} {x : Str} {f : Addr} {fd : FuncData} {ps : List Str} {k : Nat} {p1 : Addr × Obj} {ee : Exc} {cls : Value} {dx : Option Addr} {F : Addr → Exc → M Slot} {e : Expr} {es : List Expr} {m : M (List DL.Arg)} {p pos : Pos}
theorem pin_ok {pins : List (Addr × Obj)} {σ : L2.St} {H : Hp} {s : Shared} (I : Inv X pins σ H s) (hp : p1 ∈ X.pn) : PinOk X.stack H s p1 := by
  obtain ⟨g, n, l, r⟩ := I.pin p1 (List.mem_append_left _ hp)
  exact ⟨g, n, fun hm => (List.mem_cons.mp (I.stkSub p1.1 hm)).elim l r.1, r.2⟩
/-- f(e, ..) in an except suite, or in a def that one calls -/
theorem dr_callH (D0 : Def X.K X.mg x f fd ps) (F0 : FnHG X.prog X.w X.K X.mg X.base k f fd ps F) (hr : RoomH k X.A) (hgd : X.A.guards = some []) (hx : HotX1 X.K X.mg X.A p1 ee cls dx) (hp : p1 ∈ X.pn) (tk : L2N.Takes X W) (hg : Gl X x) (ha : PA X (e :: es) (tA Γ W m)) (hΓ : Γ = ⟨X.K, X.mg⟩ := by rfl)
    (hdb : (x == ("__debug__" : Str)) = false := by decide) (he : starEach (e :: es) X.env = (false, eval e X.env) :: starEach es X.env := by rfl) (hpl : (backTo pos (starEach es X.env)).any (·.1) = false := by rfl) :
    PE X (.Call (.Name x p) (e :: es) [] pos) (tR Γ W (eCallF (F p1.1 ee) m)) := by
  refine ⟨fun pins s σ H Q I ⟨G, ρ, sr, h⟩ => ?_⟩
  refine wpAny_Call_Name_kw (ld_glob I hg D0.m ?_ hdb)
  refine PySem.W.callWith_K (h₀ := X.base) I.ok.mod.kin D0.kp (thn (ha.run pos pins s σ H (fun vs H1 => ∃ G1 ρ1 as, Stp Γ.K G H σ ρ G1 H1 σ ρ1 ∧ ArgsOk Γ.K G1 σ vs as ∧
      (callF (F p1.1 ee) as ρ1).Post (fun r ρ' => ∀ v G' H', Stp Γ.K G H σ ρ G' H' σ ρ' → RvOk Γ.K G H σ ρ G' H' σ ρ' v r → Q v H') (EW Γ W G H σ ρ)) I
      ⟨G, ρ, sr, (post_bind.mp h).imp (fun as ρ1 h1 vs G1 H1 x1 r1 => ⟨G1, ρ1, as, x1, r1, h1⟩) fun _ _ e => e⟩) fun us s1 ⟨vs, H1, I1, r, G1, ρ1, as, x1, ra, q⟩ => ⟨I1.kIn, ?_⟩) he hpl
  refine wpAny_call (codeAny_mono (run_callG (args := ⟨us, []⟩) (F0.len p1.1 ee) (fun E hl sp => F0.go X.A X.stack s1 H1 ⟨us, []⟩ us vs Q E p1 ee cls dx hr hgd hx (pin_ok I1 hp) I1.env0 (D0.b s1 us hl) r sp) tk hΓ I1 x1.sr r ra (q.imp (fun r ρ2 h2 v G2 H2 x2 rv => h2 v G2 H2 (x1.tr x2) (RvOk.tr x1 rv)) fun _ _ e => e.tr x1)) fun r s' hq => ?_)
  cases r with
  | error e => exact hq
  | ok fl => cases fl <;> first | exact hq | exact hq.elim
end
end DL

/-! DHc: what printed texts say of several error classes, and of suites that call defs. -/
namespace DL
open PySem PySem.Spec L2
open L2H (RoomH Hot1 PinOk HotC cxH)
theorem hotX_suite {X : Cx} {a : Addr} {oe : Obj} {pn : List (Addr × Obj)} {e : Exc} {cls : Value} {d : Option Addr} (hz : L2N.Zn cls d oe) (hf : ∃ vs, oe.data = .fields vs) (he : ExcN ⟨X.K, X.mg⟩ e cls d) : HotX1 X.K X.mg (X.suite a ((a, oe) :: pn)).A (a, oe) e cls d := by
  obtain ⟨vs, hv⟩ := hf
  exact ⟨⟨rfl, vs, hv, hz.2.2 vs hv⟩, hz, ⟨vs, hv⟩, he⟩
theorem HotX1.deeper {K : PySem.W.Frag} {mg : Str → Option Value} {A : Around} {p : Addr × Obj} {e : Exc} {cls : Value} {d : Option Addr} (h : HotX1 K mg A p e cls d) (env : Env) : HotX1 K mg (A.deeper env) p e cls d :=
  ⟨⟨h.hot.1, h.hot.2⟩, h.zn, h.fl, h.ex⟩
theorem HotX1.c {X : Cx} {p : Addr × Obj} {e : Exc} {cls : Value} {d : Option Addr} (h : HotX1 X.K X.mg X.A p e cls d) (hp : p ∈ X.pn) : HotC X := ⟨p, h.hot, hp⟩
theorem roomH_suite {X : Cx} {k : Nat} {a : Addr} {pn : List (Addr × Obj)} (hr : Room k X.A) : RoomH k (X.suite a pn).A := ⟨hr.dp, hr.un⟩
/-- except B: the classes xs are below B -/
def ctS (xs : List Str) (e : Exc) : Option Bool := if e.cls ∈ xs then some true else none
theorem ct_many {K : PySem.W.Frag} {mg : Str → Option Value} {xs : List Str} {B : Value} (h : ∀ x ∈ xs, ∃ C, mg x = some (.ref C) ∧ PySem.W.exmOne K (.ref C) B = some true) : ∀ (e : Exc) (cls : Value) (d : Option Addr) (k : Bool), ExcN ⟨K, mg⟩ e cls d → ctS xs e = some k → PySem.W.exmOne K cls B = some k := fun e cls d k ⟨C', h1, h2, _⟩ hc => by
  unfold ctS at hc
  split at hc
  · rename_i hx
    cases hc
    obtain ⟨C, g1, g2⟩ := h _ hx
    have h1 : mg e.cls = some (.ref C') := h1
    rw [g1] at h1
    cases h1
    rw [h2]; exact g2
  · cases hc
/-- isinstance(n, T) by the class of n -/
def xIsT (tb : List (Str × Bool)) (e : Exc) : Option Bool := if e.args = [] then tb.lookup e.cls else none
theorem lookup_mem {α β : Type} [BEq α] [LawfulBEq α] : ∀ {l : List (α × β)} {a : α} {b : β}, l.lookup a = some b → (a, b) ∈ l
  | [], _, _, h => by cases h
  | (x, y) :: l, a, b, h => by
    unfold List.lookup at h
    split at h
    · rename_i q
      cases h
      have := eq_of_beq q
      subst this
      simp
    · exact List.mem_cons_of_mem _ (lookup_mem h)
theorem isX_many {K : PySem.W.Frag} {mg : Str → Option Value} {tb : List (Str × Bool)} {cv : Value} (h : ∀ p ∈ tb, ∃ C, mg p.1 = some (.ref C) ∧ ExcC K C ∧ PySem.W.kitOne K (.ref C) cv = some p.2) {e : Exc} {cls : Value} {d : Option Addr} {oe : Obj} (hz : L2N.Zn cls d oe) (he : ExcN ⟨K, mg⟩ e cls d) :
    ∀ b, xIsT tb e = some b → ExcC K he.choose ∧ Zc (.ref he.choose) none oe ∧ PySem.W.kitOne K (.ref he.choose) cv = some b := fun b hb => by
  obtain ⟨s1, s2, s3⟩ := he.choose_spec
  generalize he.choose = C' at s1 s2
  unfold xIsT at hb
  split at hb
  · rename_i ha
    obtain ⟨C, g1, g2, g3⟩ := h _ (lookup_mem hb)
    have s1 : mg e.cls = some (.ref C') := s1
    rw [g1] at s1
    cases s1
    have := hz.zc
    rw [s2, s3 ha] at this
    exact ⟨g2, this, g3⟩
  · cases hb
end DL

/-! DHd: an own dict with tuples of ints as keys: {}, d[a, b] = v, d[a, b]. -/
namespace DL
open PySem PySem.Spec L2
def keyI : List D → Option (List Key)
  | [] => some []
  | .int i :: r => (keyI r).map (Sum.inl i :: ·)
  | _ => none
theorem keyI_vs {K : PySem.W.Frag} {G : Hp} : ∀ {ks : List D} {vs : List V} {k : List Key}, RpAll K G vs ks → keyI ks = some k → vs = k.map kV
  | [], _, _, h, e => by cases h; cases e; rfl
  | d :: ks, _, k, h, e => by
    cases d <;> try (cases e)
    rename_i i
    cases h with
    | cons h1 h2 =>
      cases h1
      unfold keyI at e
      cases q : keyI ks with
      | none => rw [q] at e; cases e
      | some r => rw [q] at e; cases e; rw [keyI_vs h2 q]; rfl
def putD (kvs : List (List Key × D)) (k : List Key) (v : D) : List (List Key × D) := if (kvs.any fun kv => decide (kv.1 = k)) = true then kvs.map (fun kv => if kv.1 = k then (kv.1, v) else kv) else kvs ++ [(k, v)]
def valD (kvs : List (List Key × D)) (k : List Key) : Option D := (kvs.find? fun kv => decide (kv.1 = k)).map (·.2)
section
variable {K : PySem.W.Frag} {G : Hp}
theorem kv_any {k : List Key} : ∀ {vs : List (List Key × V)} {ds : List (List Key × D)}, KvOk K G vs ds → (vs.any fun kv => decide (kv.1 = k)) = ds.any fun kv => decide (kv.1 = k)
  | [], _, h => by cases h; rfl
  | v :: vs, _, h => by
    cases h with
    | cons h1 h2 => simp only [List.any_cons, kv_any h2, h1.1]
theorem kv_set {k : List Key} {v : V} {d : D} (r : Rp K G v d) : ∀ {vs : List (List Key × V)} {ds : List (List Key × D)}, KvOk K G vs ds → KvOk K G (vs.map fun kv => if kv.1 = k then (kv.1, v) else kv) (ds.map fun kv => if kv.1 = k then (kv.1, d) else kv)
  | [], _, h => by cases h; exact .nil
  | w :: vs, _, h => by
    cases h with
    | cons h1 h2 =>
      refine .cons ?_ (kv_set r h2)
      simp only [h1.1]
      split
      · exact ⟨rfl, r⟩
      · exact ⟨h1.1, h1.2⟩
theorem kv_app {a : List (List Key × V)} {b : List (List Key × D)} {v : List Key × V} {d : List Key × D} (h : v.1 = d.1 ∧ Rp K G v.2 d.2) (r : KvOk K G a b) : KvOk K G (a ++ [v]) (b ++ [d]) := by
  induction r with
  | nil => exact .cons h .nil
  | cons h1 _ ih => exact .cons h1 ih
theorem kv_put {k : List Key} {v : V} {d : D} (r : Rp K G v d) {vs : List (List Key × V)} {ds : List (List Key × D)} (h : KvOk K G vs ds) : KvOk K G (putK vs k v) (putD ds k d) := by
  unfold putK putD
  rw [kv_any h]
  split
  · exact kv_set r h
  · exact kv_app ⟨rfl, r⟩ h
theorem kv_get {k : List Key} {d : D} : ∀ {vs : List (List Key × V)} {ds : List (List Key × D)}, KvOk K G vs ds → valD ds k = some d → ∃ v, valV vs k = some v ∧ Rp K G v d
  | [], _, h, e => by cases h; cases e
  | w :: vs, _, h, e => by
    cases h with
    | cons h1 h2 =>
      unfold valD at e
      rw [List.find?_cons] at e
      unfold valV
      rw [List.find?_cons, h1.1]
      split at e
      · rename_i q
        cases e
        simp only [q]
        exact ⟨_, rfl, h1.2⟩
      · rename_i q
        simp only [q]
        exact kv_get h2 e
theorem kv_len {vs : List (List Key × V)} {ds : List (List Key × D)} (h : KvOk K G vs ds) : vs.length = ds.length := h.length
end
def slotT {α : Type} (i : Nat) (f : List (List Key × D) → M α) : M α := fun ρ => match ρ[i]? with
  | some (.own (.dT kvs)) => f kvs ρ
  | _ => .bad
theorem slotT_post {α : Type} {i : Nat} {f : List (List Key × D) → M α} {ρ : Rho} {Q : α → Rho → Prop} {E : Exc → Rho → Prop} (h : (slotT i f ρ).Post Q E) : ∃ kvs, ρ[i]? = some (.own (.dT kvs)) ∧ (f kvs ρ).Post Q E := by
  unfold slotT at h
  split at h
  · rename_i kvs e; exact ⟨kvs, e, h⟩
  · exact h.elim
theorem SR.ownT {K : PySem.W.Frag} {G H : Hp} {σ : St} {ρ : Rho} (s : SR K G H σ ρ) {i : Nat} {ds : List (List Key × D)} (h : ρ[i]? = some (.own (.dT ds))) : ∃ a vs, σ[i]? = some (some (.ref a)) ∧ H a = some (.dT vs) ∧ KvOk K G vs ds := by
  obtain ⟨a, u, e1, e2, e3, e4⟩ := s.own h
  cases e4 with
  | dT r => exact ⟨a, _, e1, e3, r⟩
def oDT : M OC := M.ret (.dT [])
def sSetT (i : Nat) (mv : M D) (mk : M (List D)) : M Flw := mv.bind fun d => slotT i fun _ => mk.bind fun ks => slotT i fun kvs => match keyI ks with
  | some k => if ks.length ≤ 1000 ∧ kvs.length < 16777216 then fun ρ => .ok .next (ρ.set i (.own (.dT (putD kvs k d)))) else M.fail
  | none => M.fail
def eGetT (i : Nat) (mk : M (List D)) : M D := slotT i fun _ => mk.bind fun ks => slotT i fun kvs => match keyI ks with
  | some k => if ks.length ≤ 1000 then M.opt (valD kvs k) else M.fail
  | none => M.fail
section
variable {X : Cx} {Γ : Gm} {W : WX} {P : List Nat} {i : Nat} {x : Str} {px pt pos : Pos} {kk : Nat} {es : List Expr} {mv : M D} {mk : M (List D)} {ev : Expr}
theorem do_empT : PE X (.Dict [] [] pos) (tO Γ W oDT) := PE.imp pe_dnewT fun σ H Q ⟨G, ρ, s, h⟩ p np => by
  have e := Ext0.newH (o := .dT []) s.sub np
  refine h (.ref p) G _ (s.ext e) ⟨p, _, rfl, s.sub.none np, upd_same, .dT .nil, fun ⟨j, y⟩ => ?_, .inr np⟩
  obtain ⟨c, e1, e2⟩ := y
  obtain ⟨a, u, f1, f2, f3, f4⟩ := s.own e1
  rw [e2] at f1; cases f1
  rw [np] at f3; cases f3
theorem ds_setT (hu : X.A.units + 1 < cLine) (hx : PE X (.Name x px) (tVar i)) (hv : PE X ev (tD Γ W mv)) (hk : PA X es (tDs Γ W mk))
    (ha : ∀ v, assign (.Subscript (.Name x px) (.Tuple es kk pt) pos) X.env v = (do
      let ov ← holding [v] (eval (.Name x px) X.env)
      let iv ← holding [v, ov] (eval (.Tuple es kk pt) X.env)
      standAt pos
      holding [v, ov, iv] (setItem ov iv v)
      release [v, ov, iv] []) := by intro _; rfl) {spos : Pos} (hs : swapsWithSole [.Subscript (.Name x px) (.Tuple es kk pt) pos] ev spos.line X.env = pure false := by rfl) (hw : swappedStores [.Subscript (.Name x px) (.Tuple es kk pt) pos] ev X.env = pure none := by rfl)
    (h1 : (assignEach [.Subscript (.Name x px) (.Tuple es kk pt) pos] X.env).map (·.2) = [assign (.Subscript (.Name x px) (.Tuple es kk pt) pos) X.env] := by rfl) :
    PS X (.Assign [.Subscript (.Name x px) (.Tuple es kk pt) pos] ev spos) (tS Γ W P (sSetT i mv mk)) := by
  refine PS.imp (ps_asg hv (pg_sub hx (pe_tup hk) (set_dict hu) ha) hs hw h1) fun D σ H ⟨G, ρ, s, h⟩ => ⟨G, ρ, s, (post_bind.mp h).imp (fun d ρ1 h1 v G1 H1 x1 r1 => ?_) fun _ _ e => e.ew⟩
  obtain ⟨kvs0, e, h2⟩ := slotT_post h1
  obtain ⟨a, vs0, e1, e2, _⟩ := x1.sr.ownT e
  refine ⟨.ref a, e1, G1, ρ1, x1.sr, (post_bind.mp h2).imp (fun ks ρ2 h3 us G2 H2 x2 r2 => ?_) fun _ _ e => (e.ew).tr x1⟩
  obtain ⟨kvs, f, h4⟩ := slotT_post h3
  cases hk : keyI ks with
  | none => simp only [hk] at h4; exact h4.elim
  | some k =>
    simp only [hk] at h4
    obtain ⟨⟨hl, hz⟩, h5⟩ := ite_post h4
    have eu := keyI_vs r2 hk
    refine ⟨by rw [r2.length, sizeLine_eq]; omega, fun p np => ?_⟩
    have x3 := x2.sr.ext (Ext0.newH (o := .tup us) x2.sr.sub np)
    obtain ⟨a', vs, g1, g2, g3⟩ := x3.sr.ownT f
    have g1' := g1
    rw [e1] at g1'; cases g1'
    refine ⟨a, _, rfl, DPut.t g2 (by rw [eu]; exact upd_same) (by rw [g3.length, sizeLine_eq]; exact hz), ?_⟩
    exact h5 σ G2 _ ((x1.tr (x2.tr x3)).tr (x3.sr.updO f g1 (.dT (kv_put (r1.mono x2.fr.ext) g3)))) fun _ _ => rfl
theorem de_getT (hu : X.A.units + 1 < cLine) (hx : PE X (.Name x px) (tVar i)) (hk : PA X es (tDs Γ W mk)) (hs : NoSl (.Tuple es kk pt) := by intro _ _; rfl) : PE X (.Subscript (.Name x px) (.Tuple es kk pt) pos) (tD Γ W (eGetT i mk)) := by
  refine PE.imp (pe_dget hu hx (pe_tup hk) hs) fun σ H Q ⟨G, ρ, s, h⟩ => ?_
  obtain ⟨kvs0, e, h2⟩ := slotT_post h
  obtain ⟨a, vs0, e1, e2, _⟩ := s.ownT e
  refine ⟨.ref a, e1, G, ρ, s, (post_bind.mp h2).imp (fun ks ρ2 h3 us G2 H2 x2 r2 => ?_) fun _ _ e => e⟩
  obtain ⟨kvs, f, h4⟩ := slotT_post h3
  cases hk : keyI ks with
  | none => simp only [hk] at h4; exact h4.elim
  | some k =>
    simp only [hk] at h4
    obtain ⟨hl, h5⟩ := ite_post h4
    obtain ⟨d, hd, h6⟩ := opt_post h5
    have eu := keyI_vs r2 hk
    refine ⟨by rw [r2.length, sizeLine_eq]; omega, fun p np => ?_⟩
    have x3 := x2.sr.ext (Ext0.newH (o := .tup us) x2.sr.sub np)
    obtain ⟨a', vs, g1, g2, g3⟩ := x3.sr.ownT f
    have g1' := g1
    rw [e1] at g1'; cases g1'
    obtain ⟨v, q1, q2⟩ := kv_get g3 hd
    exact ⟨a, v, rfl, q1 ▸ DGet.t g2 (by rw [eu]; exact upd_same), h6 v G2 _ (x2.tr x3) q2⟩
end
theorem hu1 {A : Around} {k : Nat} (hr : Room k A) : A.units + 1 < cLine := by have := hr.un; omega
end DL

/-! DHe: a, b, .. = a list. -/
namespace DL
open PySem PySem.Spec L2
def sAsgL (gs : List Tg) (m : M D) : M Flw := m.bind fun d ρ => match d with
  | .list ds => if ds.length = gs.length then match Tg.setAll gs ds ρ with
      | some ρ' => .ok .next ρ'
      | none => .bad
    else .bad
  | _ => .bad
section
variable {X : Cx} {Γ : Gm} {W : WX} {P : List Nat} {pos tp : Pos}
theorem ds_asgL {es : List Expr} {k : Nat} {e : Expr} {gs : List Tg} {me : M D} (hc : X.calm = true) (he : PE X e (tD Γ W me)) (h : PGs X es (tGs Γ gs)) (hp : ∀ i ∈ P, i ∉ Tg.ixs gs) (hK : X.K = Γ.K := by rfl)
    (hn : (assignEach es X.env).length = gs.length := by rfl) (hst : (assignEach es X.env).findIdx? (·.1) = none := by rfl)
    (hs : swapsWithSole [.Tuple es k tp] e pos.line X.env = pure false := by rfl) (hw : swappedStores [.Tuple es k tp] e X.env = pure none := by rfl)
    (h1 : (assignEach [.Tuple es k tp] X.env).map (·.2) = [assign (.Tuple es k tp) X.env] := by rfl) : PS X (.Assign [.Tuple es k tp] e pos) (tS Γ W P (sAsgL gs me)) := by
  refine PS.imp (ps_asg he (pg_lst (n := gs.length) hc h hn hst) hs hw h1) fun D σ H ⟨G, ρ, s, h⟩ => ⟨G, ρ, s, (post_bind.mp h).imp (fun d ρ1 h1 v G1 H1 x1 r1 => ?_) fun c ρ' e => e.ew⟩
  cases d <;> try exact h1.elim
  rename_i ds
  simp only at h1
  by_cases hl : ds.length = gs.length
  · rw [if_pos hl] at h1
    cases q : Tg.setAll gs ds ρ1 with
    | none => simp only [q] at h1; exact h1.elim
    | some ρ2 =>
      simp only [q] at h1
      cases r1 with
      | lst g ra => exact ⟨_, _, rfl, SqL.of (x1.sr.sub _ _ g), ra.length.trans hl, G1, ρ1, ds, ρ2, x1.sr, ra, q, fun σ2 x2 k2 => h1 σ2 G1 H1 (x1.tr x2) fun i hi => k2 i (hp i hi)⟩
  · rw [if_neg hl] at h1; exact h1.elim
end
theorem sAsgL_ok {gs : List Tg} {m : M D} {ds : List D} {ρ ρ1 ρ2 : Rho} (h : m ρ = .ok (.list ds) ρ1) (hl : ds.length = gs.length) (hg : Tg.setAll gs ds ρ1 = some ρ2) : sAsgL gs m ρ = .ok .next ρ2 := by
  unfold sAsgL; rw [bind_ok h]; simp only [if_pos hl, hg]
/-- isinstance by an own class -/
theorem kit_refC {K : PySem.W.Frag} {C B : Addr} {b : Bool} (h : PySem.W.subIn K (.ref C) (.ref B) = some b) (self : PySem.W.subIn K (.ref C) (.ref C) = some true) (hd : PySem.W.hasDictIn K B = true) (ht : PySem.W.typeIn K (.ref B) = some (.type "type")) : PySem.W.kitOne K (.ref C) (.ref B) = some b := by
  obtain ⟨cd, hc, _⟩ := PySem.W.any_some hd
  have e2 : ((PySem.W.clsIn K B).isSome && PySem.W.typeIn K (.ref B) == some (.type "type")) = true := by rw [hc, ht] <;> rfl
  by_cases q : C = B
  · subst q
    rw [self] at h
    cases h
    show (if (Value.ref C == Value.ref C) = true then some true else _) = _
    rw [if_pos (beq_self_eq_true _)]
  · show (if (Value.ref C == Value.ref B) = true then some true else (if ((PySem.W.clsIn K B).isSome && PySem.W.typeIn K (.ref B) == some (.type "type")) = true then PySem.W.subIn K (.ref C) (.ref B) else none)) = _
    rw [if_neg (fun z => q (Value.ref.inj (beq_iff_eq.mp z))), if_pos e2]
    exact h
end DL

/-! DHf: repr of a list in which lists, tuples and {} are mixed. -/
namespace DL
open PySem PySem.Spec L2
mutual
def emB : D → Bool
  | .list xs | .tuple xs => emAll xs
  | .dict (_ :: _) => false
  | _ => true
def emAll : List D → Bool
  | [] => true
  | x :: xs => emB x && emAll xs
end
def Said (prog : Program) (w : World) (h : Heap) (u : Value) (d : D) : Prop := ∃ as bs, Reads h u d as ∧ ReadAtMost h d.depth bs ∧ ReprK prog w bs h d.depth u d.shown
def SaidAll (prog : Program) (w : World) (h : Heap) (us : List Value) (ds : List D) : Prop := ∃ as bs, ReadsAll h us ds as ∧ ReadAtMost h (PyData.depthAll ds) bs ∧ ReprAllK prog w bs h (PyData.depthAll ds) us (PyData.shownAll ds)
section
variable {X : Cx} {pins : List (Addr × Obj)} {σ : L2.St} {H : Hp} {s : Shared} {prog : Program} {w : World}
mutual
theorem Rp.said (I : Inv X pins σ H s) : ∀ (d : D) (v : V) (u : Value), emB d = true → d.showable = true → d.shown.length ≤ sizeLine → Rp X.K H v d → RelV v u → Said prog w s.heap u d
  | .none, _, _, _, _, _, h, r => by
    cases h; cases r
    exact ⟨_, [], .none, fun _ q => (nomatch q), .of_is ReprIs.none _ _ _⟩
  | .bool b, _, _, _, _, _, h, r => by
    cases h; cases r
    exact ⟨_, [], .bool b, fun _ q => (nomatch q), .of_is (ReprIs.bool b) _ _ _⟩
  | .int i, _, _, _, hs, _, h, r => by
    cases h; obtain ⟨t, rfl⟩ := r
    have hs : i.natAbs.log2 < 1920 := by simpa [PyData.showable] using hs
    exact ⟨_, [], .int i t, fun _ q => (nomatch q), .of_is (ReprIs.int t hs) _ _ _⟩
  | .str x, _, _, _, _, hl, h, r => by
    cases h; obtain ⟨t, rfl⟩ := r
    have hl := hl; simp only [PyData.shown] at hl
    exact ⟨_, [], .str x t, fun _ q => (nomatch q), .of_is (ReprIs.str x t hl) _ _ _⟩
  | .list ds, _, _, he, hs, hl, h, r => by
    cases h with
    | lst g ra =>
      cases r
      simp only [PyData.shown] at hl
      obtain ⟨us, rv, ⟨o, n, e1, e2, _, e3⟩, _⟩ := I.list (SqL.of g)
      obtain ⟨as, bs, q1, q2, q3⟩ := RpAll.said I ds _ us (by simpa [emB] using he) (by simpa [PyData.showable] using hs) (fun t q => Nat.le_trans (listText_mem_le q) hl) ra rv
      have rd := Reads.list e1 e2 e3 q1
      have dp : PyData.depthAll ds < (PyData.list ds).depth := by rw [PyData.depth]; exact Nat.lt_succ_self _
      have no := not_mem_of_deeper rd dp q2
      refine ⟨_, _, rd, .cons rd (Nat.le_of_lt dp) q2, ?_⟩
      rw [PyData.depth, PyData.shown]
      cases us with
      | nil =>
        cases q1
        rw [PyData.shownAll, listText_nil]
        exact .listEmpty e1 e2 e3
      | cons u us => exact .list e1 e2 e3 no (by rw [List.size_toArray]; exact q3.length_eq) fun i y e => q3.item i y (by rwa [List.getElem?_toArray] at e)
  | .tuple ds, _, _, he, hs, hl, h, r => by
    cases h with
    | tup g ra =>
      cases r
      simp only [PyData.shown] at hl
      obtain ⟨us, rv, ⟨o, e1, e2, n, e3⟩, _⟩ := I.tuple (SqT.of g)
      obtain ⟨as, bs, q1, q2, q3⟩ := RpAll.said I ds _ us (by simpa [emB] using he) (by simpa [PyData.showable] using hs) (fun t q => Nat.le_trans (tupleText_mem_le q) hl) ra rv
      have rd := Reads.tuple e1 e2 e3 q1
      have dp : PyData.depthAll ds < (PyData.tuple ds).depth := by rw [PyData.depth]; exact Nat.lt_succ_self _
      have no := not_mem_of_deeper rd dp q2
      refine ⟨_, _, rd, .cons rd (Nat.le_of_lt dp) q2, ?_⟩
      rw [PyData.depth, PyData.shown]
      exact .tuple e1 e2 e3 no q3
  | .dict [], _, _, _, _, _, h, r => by
    cases h with
    | emp g =>
      cases r
      obtain ⟨_, ne, vs, rel, dd⟩ := I.hok _ _ g
      cases rel
      obtain ⟨o, es, ep, e1, ex, e2, _, pr, _⟩ := dd
      have e0 : es.toList = [] := by
        cases q : es.toList with
        | nil => rfl
        | cons a r => rw [q] at pr; cases pr
      have rd := Reads.dict (kvs := []) (as := []) (bs := []) e1 ex.1 e2 (by rw [e0]; exact .nil) (by rw [e0]; exact .nil)
      refine ⟨_, _, rd, .cons rd (Nat.zero_le _) (n := 0) (bs := []) (fun _ q => (nomatch q)), ?_⟩
      exact ReprK.dict (d := 0) (as := []) e1 ex.1 e2 ne (by simp) (by rw [e0]; exact .nil)
  | .dict (_ :: _), _, _, he, _, _, _, _ => by simp [emB] at he
theorem RpAll.said (I : Inv X pins σ H s) : ∀ (ds : List D) (vs : List V) (us : List Value), emAll ds = true → PyData.showableAll ds = true → (∀ t ∈ PyData.shownAll ds, t.length ≤ sizeLine) → RpAll X.K H vs ds → Vals vs us → SaidAll prog w s.heap us ds
  | [], _, _, _, _, _, h, r => by
    cases h; cases r
    exact ⟨_, [], .nil, fun _ q => (nomatch q), .nil⟩
  | d :: ds, _, _, he, hs, hl, h, r => by
    simp only [emAll, Bool.and_eq_true] at he
    simp only [PyData.showableAll, Bool.and_eq_true] at hs
    cases h with
    | cons h1 h2 =>
      cases r with
      | cons r1 r2 =>
        rw [PyData.shownAll] at hl
        obtain ⟨a1, b1, q1, m1, k1⟩ := Rp.said I d _ _ he.1 hs.1 (hl _ List.mem_cons_self) h1 r1
        obtain ⟨a2, b2, q2, m2, k2⟩ := RpAll.said I ds _ _ he.2 hs.2 (fun t z => hl t (List.mem_cons_of_mem _ z)) h2 r2
        have l1 : d.depth ≤ PyData.depthAll (d :: ds) := by rw [PyData.depthAll]; exact Nat.le_max_left _ _
        have l2 : PyData.depthAll ds ≤ PyData.depthAll (d :: ds) := by rw [PyData.depthAll]; exact Nat.le_max_right _ _
        refine ⟨_, b1 ++ b2, .cons q1 q2, (m1.mono l1).append (m2.mono l2), ?_⟩
        rw [PyData.shownAll]
        exact .cons ((k1.more fun b z => List.mem_append_left b2 z).level_le l1) (k2.more_le (fun b z => List.mem_append_right b1 z) l2)
end
end
def rReprE (K : PySem.W.Frag) : List V → Hp → VK → Prop := fun xs H Q => ∃ v ds, xs = [v] ∧ Rp K H v (.list ds) ∧ emAll ds = true ∧ PyData.showableAll ds = true ∧ (PyData.list ds).depth ≤ 64 ∧ (PyData.list ds).shown.length ≤ sizeLine ∧ Q (.str (PyData.list ds).shown) H
theorem call_reprE {X : Cx} (hgd : X.A.guards = some []) (hu : X.A.units + 65 < cLine) : CallR X (.builtin "repr") (rReprE X.K) := by
  intro pins s σ H xs us Q I r h
  obtain ⟨v, ds, rfl, rp, he, hs, hd, hl, q⟩ := h
  obtain ⟨u, rfl, ru⟩ := vals1 r
  cases rp with
  | lst g ra =>
    cases ru
    obtain ⟨us, rv, ⟨o, n, e1, e2, _, e3⟩, _⟩ := I.list (SqL.of g)
    have hl2 := hl
    simp only [PyData.shown] at hl2
    obtain ⟨as, bs, q1, q2, q3⟩ := RpAll.said (prog := _) (w := _) I ds _ us he hs (fun t z => Nat.le_trans (listText_mem_le z) hl2) ra rv
    have rd := Reads.list e1 e2 e3 q1
    have dp : PyData.depthAll ds < (PyData.list ds).depth := by rw [PyData.depth]; exact Nat.lt_succ_self _
    have no := not_mem_of_deeper rd dp q2
    rw [PyData.depth] at hd
    refine call_repr_slot (T := "list") (idr := "list.__repr__") (by omega) ⟨o, e1, e2⟩ F.slot_list_repr.toG ?_
    cases us with
    | nil =>
      cases q1
      exact call_list_repr_empty ⟨o, e1, e2⟩ e1 e3 ⟨_, _, rfl, ⟨.str _, H, I.tok _, ⟨_, rfl⟩, q⟩⟩
    | cons u us =>
      exact call_list_reprK e1 e2 e3 no (by rw [List.size_toArray]; exact q3.length_eq) (fun i y e => q3.item i y (by rwa [List.getElem?_toArray] at e)) hgd (fun b _ => Clear.nil b) (by show X.A.units + 1 + _ < cLine; omega) (fun _ _ e => e) (fun h' z tk k => ⟨_, _, rfl, ⟨.str _, H, I.kept k, ⟨_, by rw [PyData.shown]⟩, q⟩⟩) hl2
def gReprE : List D → Option D
  | [.list ds] => if PyData.showableAll ds && decide ((PyData.list ds).depth ≤ 64) && decide ((PyData.list ds).shown.length ≤ 16777216) && emAll ds then some (.str (PyData.list ds).shown) else none
  | _ => none
theorem reprE_n {K : PySem.W.Frag} : RNP K (rReprE K) gReprE := by
  intro G H xs ds z Q s r hz q
  unfold gReprE at hz
  split at hz
  · rename_i es
    split at hz
    · rename_i hc
      cases hz
      simp only [Bool.and_eq_true, decide_eq_true_eq] at hc
      obtain ⟨⟨⟨c1, c2⟩, c3⟩, c4⟩ := hc
      cases r with | cons a b =>
      cases b
      exact ⟨_, es, rfl, a.mono s, c4, c1, c2, size_line c3, scal_ret s (fun _ => .str _) q⟩
    · cases hz
  · cases hz
end DL

/-! DHg: a tuple by an int. -/
namespace DL
open PySem PySem.Spec L2 PyProof.Rows
theorem tup_by_one (l : Addr) (its : Array Value) (n : Nat) (dd : Option Addr) (sl : Array (Option Value)) (u : Tok) :
    Meets (Builtin.«tuple.__mul__» ⟨[.ref l, .int 1 u], []⟩) (fun _ R s => s.heap.get? l = some { cls := .type "tuple", dict := dd, data := .seq its n, slots := sl } ∧ R (.ok (.ret (Value.ref l))) s) :=
  .of_wp fun prog w A R s h => by
    obtain ⟨hp, g, d, tk, os⟩ := s
    obtain ⟨at_, h⟩ := h
    have ix := AutoSeq1.idx_int
    have yes : (its.isEmpty || (1 : Int) == 1) = true := by simp
    wp_walk using wpAny_loadPart' at_
    repeat (first
      | (refine wpAny_ite_false (decide_eq_false (by decide)) ?_; wp_walk using wpAny_loadPart' at_)
      | (refine wpAny_ite_true (decide_eq_true yes) ?_; wp_walk using wpAny_loadPart' at_))
    exact ⟨_, rfl, h⟩
def rOneT (K : PySem.W.Frag) : R2 := fun x y H Q => ∃ l xs, x = .ref l ∧ y = .int 1 ∧ SqT K H l xs ∧ Q (.ref l) H
theorem op_oneT {X : Cx} : OpR X (binaryOp .Mult) (rOneT X.K) := by
  intro pins s σ H x y v u Q I rx ry h
  obtain ⟨l, xs, rfl, rfl, hT, q⟩ := h
  cases rx
  obtain ⟨t, rfl⟩ := ry
  obtain ⟨its, r, ⟨⟨cls, dd, data, sl⟩, ho, hc, n, hd⟩, hs⟩ := I.tuple hT
  simp only at hc hd
  subst hc hd
  exact wpAny_binaryOp_repeat_ref (T := "tuple") (U := "int") (by decide) ⟨_, ho, rfl⟩ (fun z => typeIs_int z 1 t) noFill_tuple_mul F.fills_int_mul F.slot_int_rmul repeat_tuple F.slot_int_index.lookup
    (call_meets F.slot_int_rmul (typeIs_int s 1 t) F.entry_int_rmul (F.args_int_rmul_2 _ _) (int_rmul_tuple 1 t l its.toArray n dd sl)
      ⟨ho, rfl, ⟨_, ho, rfl⟩, call_meets F.slot_tuple_mul ⟨_, ho, rfl⟩ F.entry_tuple_mul (F.args_tuple_mul_2 _ _) (tup_by_one l its.toArray n dd sl t) ⟨ho, ⟨.ref l, H, I, rfl, q⟩⟩⟩)
def gMulT : D → D → Option D
  | .tuple xs, .int k => if 1 ≤ k ∧ k ≤ 1000 ∧ xs.length ≤ 1000 ∧ xs.isEmpty = false then some (.tuple (List.replicate k.toNat xs).flatten) else none
  | a, b => gMul a b
def rMulT (K : PySem.W.Frag) : R2 := fun x y H Q => (rMulD x y H Q ∨ rRepT K x y H Q) ∨ rOneT K x y H Q
theorem op_mulT {X : Cx} : OpR X (binaryOp .Mult) (rMulT X.K) := (op_mulD.or op_repT).or op_oneT
theorem mulT_r2 {K : PySem.W.Frag} : R2P K (rMulT K) gMulT := by
  intro G H x y d e z Q s rx ry hz q
  unfold gMulT at hz
  split at hz
  · rename_i xs k
    split at hz
    · rename_i hc
      obtain ⟨h1, h2, h3, h4⟩ := hc
      cases hz
      cases ry
      by_cases k1 : k = 1
      · subst k1
        have e1 : (List.replicate (1 : Int).toNat xs).flatten = xs := by simp
        rw [e1] at q
        cases rx with | tup g1 r1 =>
        exact .inr ⟨_, _, rfl, rfl, s.seqT g1, q _ _ _ (Ext0.rfl s) (.tup g1 r1)⟩
      · cases rx with | tup g1 r1 =>
        refine .inl (.inr ⟨_, _, _, rfl, rfl, s.seqT g1, fun z => ?_, by omega, h2, by rw [r1.length]; exact h3, fun p np => ?_⟩)
        · have := r1.length
          rw [z] at this
          rw [List.eq_nil_of_length_eq_zero this.symm] at h4
          cases h4
        · exact q _ _ _ (Ext0.new s np) (.tup upd_same ((r1.rep _).mono (Sub.upd (s.none np))))
    · cases hz
  · exact .inl (.inl (mulD_r2 G H x y d e z Q s rx ry hz q))
end DL

/-! DHh: a slot for what a def hands back (data or an own dict); is None, len, in, d[k] = v with any tuple of ints; all keys. -/
namespace DL
open PySem PySem.Spec L2
def keyT : D → Option (List Key)
  | .tuple ks => keyI ks
  | _ => none
theorem keyT_ref {K : PySem.W.Frag} {G : Hp} {v : V} {d : D} {k : List Key} (r : Rp K G v d) (h : keyT d = some k) : ∃ b, v = .ref b ∧ G b = some (.tup (k.map kV)) := by
  cases d <;> try (cases h)
  rename_i ks
  cases r with
  | tup g ra =>
    have e := keyI_vs ra h
    subst e
    exact ⟨_, rfl, g⟩
theorem kv_is {K : PySem.W.Frag} {G : Hp} {k : List Key} : ∀ {vs : List (List Key × V)} {ds : List (List Key × D)}, KvOk K G vs ds → (valV vs k).isSome = (valD ds k).isSome
  | [], _, h => by cases h; rfl
  | w :: vs, _, h => by
    cases h with
    | cons h1 h2 =>
      unfold valV valD
      rw [List.find?_cons, List.find?_cons, h1.1]
      split
      · rename_i q
        simp only [q]; rfl
      · rename_i q
        simp only [q]; exact kv_is h2
/-! ### a slot for what is handed back -/
def sSetR (i : Nat) (m : M Slot) : M Flw := m.bind fun r ρ => match r with
  | .fz d => if i < ρ.length then .ok .next (ρ.set i (.fz d)) else .bad
  | .own c => if i < ρ.length then .ok .next (ρ.set i (.own c)) else .bad
  | _ => .bad
section
variable {X : Cx} {Γ : Gm} {W : WX} {P : List Nat} {i : Nat} {x : Str} {px pos : Pos}
theorem ds_setR {pos' : Pos} {e : Expr} {m : M Slot} (hN : X.N.Nodup) (hi : X.N[i]? = some x) (hx : Loc X.env.scope x) (he : PE X e (tR Γ W m)) (hp : i ∉ P) (hs : swapsWith e (some (.Name x pos')) pos.line X.env = pure false := by rfl)
    (hf : X.fn x = true ∨ X.env.scope.names.lookup x = some .local := by first | exact .inl rfl | exact .inr rfl | assumption) : PS X (.Assign [.Name x pos'] e pos) (tS Γ W P (sSetR i m)) := by
  refine PS.imp (ps_set hN hi hx he hs hf) fun D σ H ⟨G, ρ, s, h⟩ => ⟨G, ρ, s, (post_bind.mp h).imp (fun r ρ1 h1 v G1 H1 x1 r1 => ?_) fun c ρ' e => e.ew⟩
  cases r with
  | un => exact h1.elim
  | ex _ => exact h1.elim
  | fz d =>
    obtain ⟨hl, q⟩ := set_post (σ := σ) (ρ' := ρ) h1
    exact q _ G1 H1 (x1.tr (x1.sr.setF hl r1)) (kept_set hp)
  | own c =>
    obtain ⟨hl, q⟩ := set_post (σ := σ) (ρ' := ρ) h1
    obtain ⟨a, u, rfl, g, hu, oc, n, f⟩ := r1
    obtain ⟨sr, ow⟩ := x1.sr.setO hl g hu oc n
    refine q _ G1 H1 ⟨sr, x1.fr, fun b z => ?_⟩ (kept_set hp)
    rcases ow b z with z | z
    · subst z; exact f
    · exact x1.ow b z
/-- x is None -/
def eIsNo (i : Nat) : M D := fun ρ => match ρ[i]? with
  | some (.own _) => .ok (.bool false) ρ
  | some (.fz d) => .ok (.bool (isNon d)) ρ
  | _ => .bad
theorem isNo_read {σ : St} {H : Hp} {Q : VK} (h : tD Γ W (eIsNo i) σ H Q) : tOp (fun x y H Q => y = .non ∧ Q (.bl (decide (x = .non))) H) (tVar i) (tC V.non) σ H Q := by
  obtain ⟨G, ρ, s, h⟩ := h
  unfold eIsNo at h
  split at h
  · rename_i c e
    obtain ⟨a, u, e1, e2, e3, e4⟩ := s.own e
    exact ⟨.ref a, e1, rfl, h _ G H (Stp.rfl s) (.bl false)⟩
  · rename_i d e
    obtain ⟨v, e1, e2⟩ := s.fz e
    have ed : decide (v = V.non) = isNon d := by cases e2 <;> rfl
    exact ⟨v, e1, rfl, by rw [ed]; exact h _ G H (Stp.rfl s) (.bl _)⟩
  · exact h.elim
theorem de_isNo {k : Nat} {p2 : Pos} (hx : PE X (.Name x px) (tVar i)) : PE X (.Compare (.Name x px) [.Is] [.Constant .none k p2] pos) (tD Γ W (eIsNo i)) :=
  PE.imp (pe_cmpR op_isN hx pe_non (nomark _)) fun σ H Q h => isNo_read h
theorem dt_isNo {k : Nat} {p2 : Pos} (hx : PE X (.Name x px) (tVar i)) : PT X (.Compare (.Name x px) [.Is] [.Constant .none k p2] pos) (tT Γ W (asB (eIsNo i))) :=
  PT.imp (pt_cmpR op_isN hx pe_non (nomark _)) fun σ H Q h => isNo_read (tD_bool h)
/-- len(d) -/
def eLenT (i : Nat) : M D := slotT i fun kvs => M.ret (.int kvs.length)
theorem de_lenT {p : Pos} (hg : Gl X "len") (hm : X.mg "len" = none) (hx : PE X (.Name x px) (tVar i)) (he : starEach [.Name x px] X.env = (false, eval (.Name x px) X.env) :: starEach [] X.env := by rfl) : PE X (.Call (.Name "len" p) [.Name x px] [] pos) (tD Γ W (eLenT i)) := by
  refine PE.imp (pe_callB (r := rLenT) call_len_dT hg hm boot_len (pa_cons hx pa_nil)) fun σ H Q ⟨G, ρ, s, h⟩ => ?_
  obtain ⟨kvs, e, h2⟩ := slotT_post h
  obtain ⟨a, vs, e1, e2, r⟩ := s.ownT e
  exact ⟨.ref a, e1, a, vs, rfl, e2, by rw [kv_len r]; exact h2 _ G H (Stp.rfl s) (.int _)⟩
/-- k in d -/
def eInT (mk : M D) (i : Nat) : M D := mk.bind fun d => slotT i fun kvs => match keyT d with
  | some k => M.ret (.bool (valD kvs k).isSome)
  | none => M.fail
theorem inT_read {mk : M D} {σ : St} {H : Hp} {Q : VK} (h : tD Γ W (eInT mk i) σ H Q) : tDIn (tD Γ W mk) (tVar i) σ H Q := by
  obtain ⟨G, ρ, s, h⟩ := h
  refine ⟨G, ρ, s, (post_bind.mp h).imp (fun d ρ1 h1 v G1 H1 x1 r1 => ?_) fun _ _ e => e⟩
  obtain ⟨kvs, e, h2⟩ := slotT_post h1
  obtain ⟨a, vs, e1, e2, r⟩ := x1.sr.ownT e
  cases q : keyT d with
  | none => simp only [q] at h2; exact h2.elim
  | some k =>
    simp only [q] at h2
    obtain ⟨b, rfl, gb⟩ := keyT_ref r1 q
    exact ⟨.ref a, e1, a, _, rfl, DGet.t e2 (x1.sr.sub _ _ gb), by rw [kv_is r]; exact h2 _ G1 H1 x1 (.bl _)⟩
theorem de_inT {ke : Expr} {mk : M D} (hu : X.A.units + 1 < cLine) (hx : PE X (.Name x px) (tVar i)) (hk : PE X ke (tD Γ W mk)) : PE X (.Compare ke [.In] [.Name x px] pos) (tD Γ W (eInT mk i)) :=
  PE.imp (pe_cmp (pc_din hu hk hx)) fun σ H Q h => inT_read h
theorem dt_inT {ke : Expr} {mk : M D} (hu : X.A.units + 1 < cLine) (hx : PE X (.Name x px) (tVar i)) (hk : PE X ke (tD Γ W mk)) : PT X (.Compare ke [.In] [.Name x px] pos) (tT Γ W (asB (eInT mk i))) :=
  PT.imp (pt_cmp (pc_din hu hk hx)) fun σ H Q h => inT_read (tD_bool h)
/-- d[k] = v, k any tuple of ints -/
def sSetTv (i : Nat) (mv mk : M D) : M Flw := mv.bind fun d => slotT i fun _ => mk.bind fun kd => slotT i fun kvs => match keyT kd with
  | some k => if kvs.length < 16777216 then fun ρ => .ok .next (ρ.set i (.own (.dT (putD kvs k d)))) else M.fail
  | none => M.fail
theorem ds_setTv {ev ke : Expr} {mv mk : M D} (hu : X.A.units + 1 < cLine) (hx : PE X (.Name x px) (tVar i)) (hv : PE X ev (tD Γ W mv)) (hk : PE X ke (tD Γ W mk))
    (ha : ∀ v, assign (.Subscript (.Name x px) ke pos) X.env v = (do
      let ov ← holding [v] (eval (.Name x px) X.env)
      let iv ← holding [v, ov] (eval ke X.env)
      standAt pos
      holding [v, ov, iv] (setItem ov iv v)
      release [v, ov, iv] []) := by intro _; rfl) {spos : Pos} (hs : swapsWithSole [.Subscript (.Name x px) ke pos] ev spos.line X.env = pure false := by rfl) (hw : swappedStores [.Subscript (.Name x px) ke pos] ev X.env = pure none := by rfl)
    (h1 : (assignEach [.Subscript (.Name x px) ke pos] X.env).map (·.2) = [assign (.Subscript (.Name x px) ke pos) X.env] := by rfl) :
    PS X (.Assign [.Subscript (.Name x px) ke pos] ev spos) (tS Γ W P (sSetTv i mv mk)) := by
  refine PS.imp (ps_asg hv (pg_sub hx hk (set_dict hu) ha) hs hw h1) fun D σ H ⟨G, ρ, s, h⟩ => ⟨G, ρ, s, (post_bind.mp h).imp (fun d ρ1 h1 v G1 H1 x1 r1 => ?_) fun _ _ e => e.ew⟩
  obtain ⟨kvs0, e, h2⟩ := slotT_post h1
  obtain ⟨a, vs0, e1, e2, _⟩ := x1.sr.ownT e
  refine ⟨.ref a, e1, G1, ρ1, x1.sr, (post_bind.mp h2).imp (fun kd ρ2 h3 u G2 H2 x2 r2 => ?_) fun _ _ e => (e.ew).tr x1⟩
  obtain ⟨kvs, f, h4⟩ := slotT_post h3
  cases hq : keyT kd with
  | none => simp only [hq] at h4; exact h4.elim
  | some k =>
    simp only [hq] at h4
    obtain ⟨hz, h5⟩ := ite_post h4
    obtain ⟨b, rfl, gb⟩ := keyT_ref r2 hq
    obtain ⟨a', vs, g1, g2, g3⟩ := x2.sr.ownT f
    have g1' := g1
    rw [e1] at g1'; cases g1'
    refine ⟨a, _, rfl, DPut.t g2 (x2.sr.sub _ _ gb) (by rw [g3.length, sizeLine_eq]; exact hz), ?_⟩
    exact h5 σ G2 _ ((x1.tr x2).tr (x2.sr.updO f g1 (.dT (kv_put (r1.mono x2.fr.ext) g3)))) fun _ _ => rfl
end
end DL

/-! DHi: any([x == y for x, y in d]), d an own dict with pairs of ints as keys. -/
namespace DL
open PySem PySem.Spec L2
def keyEq : List Key → Option Bool
  | [.inl a, .inl b] => some (decide (a = b))
  | _ => none
def keysEq : List (List Key × D) → Option (List Bool)
  | [] => some []
  | kv :: r => match keyEq kv.1, keysEq r with
    | some b, some bs => some (b :: bs)
    | _, _ => none
theorem keyEq_eq {k : List Key} {b : Bool} (h : keyEq k = some b) : ∃ x y : Int, k = [Sum.inl x, Sum.inl y] ∧ b = decide (x = y) := by
  unfold keyEq at h
  split at h
  · cases h; exact ⟨_, _, rfl, rfl⟩
  · cases h
theorem keysEq_at {K : PySem.W.Frag} {G : Hp} : ∀ {vs : List (List Key × V)} {kvs : List (List Key × D)} {bs : List Bool}, KvOk K G vs kvs → keysEq kvs = some bs → bs.length = vs.length ∧ ∀ (i : Nat) (k : List Key) (v : V), vs[i]? = some (k, v) → ∃ x y : Int, k = [Sum.inl x, Sum.inl y] ∧ bs[i]? = some (decide (x = y))
  | [], _, bs, h, e => by
    cases h; cases e
    exact ⟨rfl, fun i k v z => by simp at z⟩
  | w :: vs, _, bs, h, e => by
    cases h with
    | cons h1 h2 =>
      rename_i kv r
      unfold keysEq at e
      cases q1 : keyEq kv.1 with
      | none => rw [q1] at e; cases e
      | some b =>
        cases q2 : keysEq r with
        | none => rw [q1, q2] at e; cases e
        | some bs' =>
          rw [q1, q2] at e
          cases e
          obtain ⟨l, al⟩ := keysEq_at h2 q2
          obtain ⟨x, y, e1, e2⟩ := keyEq_eq q1
          refine ⟨by simp [l], fun i k v z => ?_⟩
          cases i with
          | zero =>
            simp at z
            subst z
            exact ⟨x, y, h1.1.trans e1, by rw [e2]; rfl⟩
          | succ i => exact al i k v (by simpa using z)
def eAnyEq (i ix iy : Nat) : M D := slotT i fun kvs ρ => match keysEq kvs with
  | some bs => if ix < ρ.length ∧ iy < ρ.length ∧ kvs.length ≤ 16777216 then .ok (.bool (bs.any id)) ρ else .bad
  | none => .bad
theorem no_ow {σ : St} {ρ : Rho} (h : ∀ (i : Nat) (c : OC), ρ[i]? ≠ some (Slot.own c)) (a : Addr) : ¬ Ow σ ρ a := fun ⟨i, c, e, _⟩ => h i c e
theorem bare_own {n : Nat} (i : Nat) (c : OC) : (List.replicate n Slot.un)[i]? ≠ some (.own c) := fun e => by
  rw [List.getElem?_replicate] at e
  split at e <;> cases e
theorem bare_sr {K : PySem.W.Frag} {G H : Hp} {σ : St} (s : Sub G H) : SR K G H σ (List.replicate σ.length .un) :=
  ⟨s, by simp, (fun i t e => by
    rw [List.getElem?_replicate] at e
    split at e
    · cases e; trivial
    · cases e), (fun i j a ⟨c, e, _⟩ => absurd e (bare_own i c))⟩
section
variable {X : Cx} {Γ : Gm} {W : WX} {i ix iy : Nat} {x n : Str} {px p pos cpos : Pos} {elt tg : Expr} {scope : Scope} {own : List (Str × Nat)}
theorem de_anyKeys (hc : X.calm = true) (hN : X.N.Nodup) (hg0 : Gl X "any") (hm0 : X.mg "any" = none) (hx : PE X (.Name x px) (tVar i)) (ok : blkC X.N X.env.scope scope own = true)
    (hg : ∀ (s : Shared) (H : Hp) (C : Addr) (cl : List (Str × Addr)) (fp : List Addr), PG (X.blk s H scope (compEnvC scope cl C X.env) fp) tg (tG Γ (.tp [.nm ix, .nm iy])))
    (he : ∀ (s : Shared) (H : Hp) (C : Addr) (cl : List (Str × Addr)) (fp : List Addr), PE (X.blk s H scope (compEnvC scope cl C X.env) fp) elt (tD Γ WF (eBin gEqX (eVar ix) (eVar iy))))
    (hv : own.map (·.2) = [ix, iy]) (hne : ix ≠ iy) (hK : X.K = Γ.K := by rfl) (hs : ∀ z, foldedSetIterable (.Name x px) X.env z = pure z := by intro _; rfl)
    (hst : starEach [.ListComp elt [⟨tg, .Name x px, [], 0⟩] scope pos] X.env = (false, eval (.ListComp elt [⟨tg, .Name x px, [], 0⟩] scope pos) X.env) :: starEach [] X.env := by rfl) :
    PE X (.Call (.Name "any" p) [.ListComp elt [⟨tg, .Name x px, [], 0⟩] scope pos] [] cpos) (tD Γ W (eAnyEq i ix iy)) := by
  have lc := pe_lc (pos := pos) hc hN (pi_keys (tg := tg) hx) (blkOk_by ok) hg (fun _ _ _ _ _ => pts_nil) he hs
  refine PE.imp (pe_callB (cr_any hc) hg0 hm0 (by decide +kernel) (pa_cons (pe_lock lc) pa_nil hst) (by decide) (by decide) hst) fun σ H Q ⟨G, ρ, s, h⟩ => ?_
  obtain ⟨kvs, e, h2⟩ := slotT_post h
  obtain ⟨d, vs, e1, e2, r⟩ := s.ownT e
  cases hq : keysEq kvs with
  | none => simp only [hq] at h2; exact h2.elim
  | some bs =>
    simp only [hq] at h2
    split at h2
    rotate_left
    · exact h2.elim
    rename_i hb
    obtain ⟨lx, ly, lz⟩ := hb
    obtain ⟨bl, al⟩ := keysEq_at r hq
    have fin : ∀ H', Sub H H' → Q (.bl (bs.any id)) H' := fun H' sb => h2 _ G H' (s.ext ⟨Sub.rfl, sb, s.sub.tr sb, fun _ _ _ e => e⟩) (.bl _)
    refine ⟨d, .dT vs, e2, trivial, fun od => ⟨.ref d, e1, d, od, rfl, .inr ⟨vs, upd_same, fun D nD => ?_⟩⟩⟩
    have dD : d ≠ D := fun z => by rw [← z, upd_same] at nD; cases nD
    have lk : ∀ b o, b ≠ d → H b = some o → (upd H d (.frz od (.dT vs))) b = some o := fun b o nb eb => by rw [upd_ne nb]; exact eb
    have hd : (upd H d (.frz od (.dT vs))) d = some (.frz od (.dT vs)) := upd_same
    generalize upd H d (.frz od (.dT vs)) = Hl at nD lk hd
    refine ⟨fun j m H' => m = vs.length - j ∧ j ≤ vs.length ∧ (∀ b o, b ≠ D → Hl b = some o → H' b = some o) ∧ H' D = some (.lst ((bs.take j).map V.bl)),
      ⟨_, rfl, Nat.zero_le _, fun b o nb eb => by rw [upd_ne nb]; exact eb, by rw [upd_same]; rfl⟩, ?_⟩
    rintro j m H' ⟨rfl, hj, kp, at_⟩
    have hd' : H' d = some (.frz od (.dT vs)) := kp d _ dD hd
    by_cases lt : j < vs.length
    · right
      refine ⟨⟨hd', lt⟩, fun H2 => (∀ b o, b ≠ D → Hl b = some o → H2 b = some o) ∧ H2 D = some (.lst ((bs.take (j + 1)).map V.bl)), fun H2 ⟨z1, z2⟩ => ⟨vs.length - (j + 1), by omega, rfl, lt, z1, z2⟩, fun v H2 ⟨eH, k, w, q, ek, ev, eq⟩ => ?_⟩
      subst eH ev
      obtain ⟨a, b, rfl, eb⟩ := al j k w ek
      have sG : Sub (upd (fun _ => none) q (.tup [V.int a, .int b])) H2 := fun c o ec => by
        by_cases z : c = q
        · subst z; rw [upd_same] at ec; cases ec; exact eq
        · rw [upd_ne z] at ec; cases ec
      have wl : (wipe σ (own.map (·.2))).length = ρ.length := by rw [wipe_length, s.len]
      have lR : (List.replicate (wipe σ (own.map (·.2))).length Slot.un).length = ρ.length := by simp [wl]
      refine ⟨_, List.replicate (wipe σ (own.map (·.2))).length .un, .tuple [.int a, .int b], _, bare_sr sG, .tup upd_same (.cons (.int a) (.cons (.int b) .nil)), set_tp2 (by omega) (by omega), fun σ2 x2 k2 => ⟨?_, ?_⟩⟩
      · have l2 : σ2.length = (wipe σ (own.map (·.2))).length := by
          have := x2.sr.len
          rw [List.length_set, List.length_set, lR] at this
          omega
        refine (wipe_eq (σ := wipe σ (own.map (·.2))) (σ' := σ2) l2 fun j hj => k2 j fun z => hj ?_).trans (wipe_eq (wipe_length σ _) fun j hj => wipe_at hj)
        rw [hv]
        simpa [Tg.ix, Tg.ixs] using z
      · generalize hR : List.replicate (wipe σ (own.map (·.2))).length Slot.un = R at x2 lR
        have bare : ∀ (i : Nat) (c : OC), ((R.set ix (.fz (.int a))).set iy (.fz (.int b)))[i]? ≠ some (Slot.own c) := fun i c z => by
          rw [List.getElem?_set] at z
          split at z
          · split at z <;> cases z
          · rw [List.getElem?_set] at z
            split at z
            · split at z <;> cases z
            · rw [← hR] at z; exact bare_own i c z
        have g1 : ((R.set ix (.fz (.int a))).set iy (.fz (.int b)))[ix]? = some (.fz (.int a)) := by
          rw [List.getElem?_set_ne hne.symm, List.getElem?_set_self (by omega)]
        have g2 : ((R.set ix (.fz (.int a))).set iy (.fz (.int b)))[iy]? = some (.fz (.int b)) := by
          rw [List.getElem?_set_self (by rw [List.length_set]; omega)]
        show tD Γ WF (eBin gEqX (eVar ix) (eVar iy)) σ2 H2 _
        refine ⟨_, _, x2.sr, ?_⟩
        rw [eBin_ok (eVar_ok g1) (eVar_ok g2) gEqX_int]
        intro v G' H4 x4 r4
        cases r4
        have keep : ∀ c o, H2 c = some o → H4 c = some o := fun c o ec => x4.fr.keep c o ec (no_ow bare c)
        refine ⟨_, keep D _ at_, ?_, fun c o nc ec => by rw [upd_ne nc]; exact keep c o (kp c o nc ec), ?_⟩
        · rw [List.length_map, List.length_take]
          have := kv_len r
          have := size_line lz
          omega
        · rw [upd_same, List.take_add_one, eb, List.map_append]; rfl
    · left
      have ej : j = vs.length := by omega
      subst ej
      refine ⟨⟨hd', Nat.le_refl _⟩, hd', ?_⟩
      rw [List.take_of_length_le (by omega)] at at_
      refine ⟨D, bs, rfl, SqL.of (by rw [upd_ne (fun z => dD z.symm)]; exact at_), fin _ fun b o eb => ?_⟩
      by_cases z : b = d
      · subst z; rw [e2] at eb; cases eb; exact upd_same
      · rw [upd_ne z]
        have w := lk b o z eb
        exact kp b o (fun y => by rw [y, nD] at w; cases w) w
end
end DL

/-! DHj: a list comprehension while an exception is handled; isinstance of the handled exception with several classes. -/
namespace DL
open PySem PySem.Spec L2
open PyProof.Rows hiding St
open L2H (Hot1 HotC TurnH PIH PIEH)
section
/-- the context of a comprehension's block, the handled exception kept in sight -/
abbrev blkH (X : Cx) (px : Addr × Obj) (s : Shared) (H : Hp) (scope : Scope) (cenv : Env) (fq : List Addr) : Cx := { X.blk s H scope cenv fq with pn := [px] }
variable {X : Cx}
theorem start_hot {px : Addr × Obj} {pz : List (Addr × Obj)} {σ : L2.St} {H : Hp} {s : Shared} {scope : Scope} {ow : List (Str × Nat)} {fq : List Addr} (hpx : px ∈ X.pn) (I : Inv X pz σ H s) (bok : BlkOk X.N X.env.scope scope ow) (hN : X.N.Nodup) (hf : ∀ b ∈ fq, FpOk X pz H b ∧ b < s.heap.objs.size) :
    Inv (blkH X px s H scope (compEnvC scope (cellsFrom (s.heap.objs.size + 1) scope.names (cloFrom X.env.cells scope.names [])) s.heap.objs.size X.env) fq) [] (wipe σ (ow.map (·.2))) H { s with heap := pushCells (s.heap.push { cls := .type "dict", data := .dict #[] }) scope.names } := by
  have J := block_start I bok hN hf
  refine ⟨⟨J.ok.mod, J.ok.kind, J.ok.glob, J.ok.blt, J.ok.above, J.ok.inj, J.ok.has, J.ok.cab, J.ok.hd, J.ok.frames, J.ok.stk, J.ok.exf, J.ok.bs, J.ok.bsz, J.ok.noex, J.ok.exfs, J.ok.funs, J.ok.frf⟩, J.os, J.bare, J.base, J.loc, J.cell, J.free, J.freeC, fun p hp => ?_, J.hok, J.len⟩
  have hp : p ∈ [px] ++ [] := hp
  have hp : p = px := by simpa using hp
  subst hp
  obtain ⟨g, n, l, r1, r2⟩ := I.pin p (List.mem_append_left _ hpx)
  refine ⟨pushCells_keeps _ _ _ _ (Heap.get?_push_of_some _ g), n, ?_, ?_, r2⟩
  · exact Nat.ne_of_lt (Heap.lt_size g)
  · exact fun hm => (List.mem_cons.mp (I.stkSub p.1 hm)).elim l r1
theorem comp_hot {pz : List (Addr × Obj)} {s : Shared} {σ : St} {H : Hp} {Q : VK} {elt tg iter : Expr} {ifs : List Expr} {px : Addr × Obj} {scope : Scope} {ow : List (Str × Nat)} {pos pos' : Pos} {wi : TI} {g : TG} {tt : TT} {te : TE} {us1 : Option (Value → Sem Unit)} {Qf1 : Value → Shared → Prop}
    (hx1 : Hot1 X.A px) (hpx : px ∈ X.pn) (hN : X.N.Nodup) (I : Inv X pz σ H s) (hit : PIH X tg iter wi) (bok : BlkOk X.N X.env.scope scope ow)
    (hg : ∀ (s : Shared) (H : Hp) (C : Addr) (cl : List (Str × Addr)) (fq : List Addr), PG (blkH X px s H scope (compEnvC scope cl C X.env) fq) tg g) (ht : ∀ (s : Shared) (H : Hp) (C : Addr) (cl : List (Str × Addr)) (fq : List Addr), PTs (blkH X px s H scope (compEnvC scope cl C X.env) fq) ifs tt)
    (he : ∀ (s : Shared) (H : Hp) (C : Addr) (cl : List (Str × Addr)) (fq : List Addr), PE (blkH X px s H scope (compEnvC scope cl C X.env) fq) elt te) (hs1x : ∀ x, foldedSetIterable iter X.env x = pure x)
    (h : tLc wi g tt te (ow.map (·.2)) σ H Q)
    (hR1 : ∀ D C s' m H', Inv X pz σ H' s' → Q (.ref D) H' → s'.heap.Ns C m → FpOk X pz H' C → compPost (model X.prog X.w) X.A X.xe us1 Qf1 (.ref D) C (.ok .next) s') :
    wpAny (model X.prog X.w) X.A (comprehension (.ListComp elt [⟨tg, iter, ifs, 0⟩] scope pos) scope X.env pos' (newList []) false (eval iter X.env) us1) Qf1 X.xe s := by
  have hfr1 : ∀ y ∈ scope.names, y.2 = .free → ∃ c, X.env.cells.lookup y.1 = some c := fun y hy e => by
    rcases bok.free y hy e with k | k
    · exact I.ok.has _ (.inl k)
    · exact I.ok.has _ (.inr k)
  refine wpAny_comprehension_free (use := us1) rfl hs1x (closure_ok hfr1) bok.kind (fun y hy e => by rw [bok.uniq y hy, e])
    (thn (hit.run pz s σ H _ I h) fun xv z1 hx => thn hx fun itv z2 hk2 => ?_)
  obtain ⟨it, fq, tn, J, H2, e, J2, T, sr2, f2, q⟩ := hk2
  subst e
  refine wpAny_newObj_type (newEnv_comp ?_) (by show (0 : Nat) ≤ sizeLine; decide)
  generalize hDD : z2.heap.objs.size = D
  have hDn1 : H2 D = none := J2.hok.fresh (Nat.le_of_eq hDD)
  obtain ⟨W, ⟨m0, wr0⟩, trn⟩ := q D hDn1
  -- the new list
  generalize hs3 : ({ z2 with heap := z2.heap.push { cls := .type "list", data := .seq ([] : List Value).toArray } } : Shared) = z3
  have J3 : Inv X pz σ (upd H2 D (.lst [])) z3 := by
    rw [← hs3]
    refine J2.laid (t' := z2.toks) (fun b o e => Heap.get?_push_of_some _ e) (Nat.le_of_eq hDD) ⟨Nat.zero_le _, [], 0, .nil, ?_⟩
    rw [← hDD]
    exact (Heap.get?_push_size _ rfl)
  have hk3 : z3.heap = z2.heap.push { cls := .type "list", data := .seq ([] : List Value).toArray } := by rw [← hs3]
  have szz : ∀ b ∈ fq, b < z2.heap.objs.size := fun b hb => by
    obtain ⟨o, e, _⟩ := T.obj _ _ sr2 b hb
    exact Heap.lt_size e
  have f3 : ∀ b ∈ fq, FpOk X pz (upd H2 D (.lst [])) b ∧ b < z3.heap.objs.size := fun b hb => by
    have hlt := szz b hb
    refine ⟨⟨?_, (f2 b hb).2⟩, by rw [hk3, Heap.size_push]; exact Nat.lt_succ_of_lt hlt⟩
    rw [upd_ne (by rw [← hDD]; exact Nat.ne_of_lt hlt)]
    exact (f2 b hb).1
  have sr3 : tn 0 z3.heap := T.keep _ _ _ sr2 fun b _ o e => by rw [hk3]; exact Heap.get?_push_of_some _ e
  have J4 := start_hot hpx J3 bok hN f3
  have pg := hg z3 (upd H2 D (.lst [])) z3.heap.objs.size (cellsFrom (z3.heap.objs.size + 1) scope.names (cloFrom X.env.cells scope.names [])) fq
  have pt := ht z3 (upd H2 D (.lst [])) z3.heap.objs.size (cellsFrom (z3.heap.objs.size + 1) scope.names (cloFrom X.env.cells scope.names [])) fq
  have pe := he z3 (upd H2 D (.lst [])) z3.heap.objs.size (cellsFrom (z3.heap.objs.size + 1) scope.names (cloFrom X.env.cells scope.names [])) fq
  show codeAny _ _ (.compStart (.ListComp elt [⟨tg, iter, ifs, 0⟩] scope pos) 0 (.ref it) (.ref D) (compEnvC scope (cellsFrom (z3.heap.objs.size + 1) scope.names (cloFrom X.env.cells scope.names [])) z3.heap.objs.size X.env)) (compPost (model X.prog X.w) X.A X.xe us1 Qf1 (.ref D) z3.heap.objs.size) { z3 with heap := pushCells (z3.heap.push { cls := .type "dict", data := .dict #[] }) scope.names }
  have nfq : ∀ b ∈ fq, (upd H2 D (.lst [])) b = none := fun b hb => (f3 b hb).1.1
  generalize hce : compEnvC scope (cellsFrom (z3.heap.objs.size + 1) scope.names (cloFrom X.env.cells scope.names [])) z3.heap.objs.size X.env = cw at J4 pg pt pe ⊢
  have cLL : cw.locals = z3.heap.objs.size := by subst hce; rfl
  generalize hH3 : upd H2 D (.lst []) = H3 at J3 J4 pg pt pe wr0 nfq f3
  generalize hs4 : ({ z3 with heap := pushCells (z3.heap.push { cls := .type "dict", data := .dict #[] }) scope.names } : Shared) = z4 at J4 ⊢
  have sr4 : tn 0 z4.heap := T.keep _ _ _ sr3 fun b _ o e => by rw [← hs4]; exact pushCells_keeps _ _ _ _ (Heap.get?_push_of_some _ e)
  have stay1 : ∀ {σ' : St} {H' : Hp} {s' : Shared}, Inv (blkH X px z3 H3 scope cw fq) [] σ' H' s' → (∀ b ∈ fq, H' b = none) → ∀ b ∈ fq, FpOk (blkH X px z3 H3 scope cw fq) [] H' b := fun {σ' H' s'} I' hn b hb =>
    ⟨hn b hb, (I'.ok.exf b hb).1, I'.ok.exfs b hb, .inl hb, fun x c e => (I'.ok.exf b hb).2 x c e, fun p hp => by
      have hp : p ∈ [px] ++ [] := hp
      have hp : p = px := by simpa using hp
      subst hp
      exact (f3 b hb).1.2.2.2.2.2 p (List.mem_append_left _ hpx)⟩
  have lop : codeAny (model X.prog X.w) X.A (.compLoop (.ListComp elt [⟨tg, iter, ifs, 0⟩] scope pos) 0 (.ref it) (.ref D) cw) (compPost (model X.prog X.w) X.A X.xe us1 Qf1 (.ref D) z3.heap.objs.size) z4 := by
    refine compLoop_any (fun n s' => ∃ i H', Inv (blkH X px z3 H3 scope cw fq) [] (wipe σ (ow.map (·.2))) H' s' ∧ tn i s'.heap ∧ (∀ b ∈ fq, H' b = none) ∧ W i n H') ?_ m0 ⟨0, H3, J4, sr4, nfq, wr0⟩
    rintro n z5 ⟨i, H5, J5, sr5, nr5, wr5⟩
    rcases trn i n H5 wr5 with ⟨stp, qz⟩ | ⟨gg, Nx, hNx, stq⟩
    · have td := T.done (blkH X px z3 H3 scope cw fq) rfl rfl rfl ⟨px, hx1, List.mem_singleton.mpr rfl⟩ i [] z5 _ H5 (fun _ _ => False) J5 (stay1 J5 nr5) sr5 stp
      refine thnF td fun r z6 ⟨hr, J6⟩ => ?_
      subst hr
      -- back in the def's context
      have J7 : Inv X pz σ H5 z6 := J3.call' (ch := fq) J6.os J6.base J6.hok J6.bare fun b hb => ⟨(f3 b hb).1.2.2.2.1, (f3 b hb).1.2.1, (f3 b hb).1.2.2.2.2.1, (f3 b hb).1.2.2.2.2.2⟩
      have nC : H5 z3.heap.objs.size = none := by
        have z : H5 cw.locals = none := J6.free
        rw [cLL] at z
        exact z
      obtain ⟨m, hn, _⟩ := J6.loc
      have hn : z6.heap.Ns cw.locals m := hn
      rw [cLL] at hn
      exact hR1 D z3.heap.objs.size z6 m H5 J7 qz hn (J3.fpOk (Nat.le_refl _) nC)
    · have ti := T.item (blkH X px z3 H3 scope cw fq) rfl rfl rfl ⟨px, hx1, List.mem_singleton.mpr rfl⟩ i [] z5 _ H5 (fun _ _ => False) J5 (stay1 J5 nr5) sr5 gg
      refine thnF ti fun r z6 ⟨u, hr, hk6⟩ => ?_
      subst hr
      refine thnF hk6 fun _ z7 ⟨x, H7, J7, r7, y7, sr7, nr7⟩ => ?_
      have J7' := J7.pinned (stay1 J7 nr7) (T.obj _ _ sr7)
      refine thnF (pg.run _ z7 _ H7 x u _ J7' r7 (stq x H7 y7)) fun _ z8 ⟨σ8, H8, J8, hw8, qr8⟩ => ?_
      refine thnF (pt.run _ z8 σ8 H8 _ J8 qr8) fun b z9 ⟨H9, J9, qr9⟩ => ?_
      -- the turn's end
      have fin1 : ∀ {s' : Shared} {H' : Hp}, Inv (blkH X px z3 H3 scope cw fq) ([] ++ pinsAt fq z7.heap) σ8 H' s' → Nx H' → ∃ m, m < n ∧ ∃ i H', Inv (blkH X px z3 H3 scope cw fq) [] (wipe σ (ow.map (·.2))) H' s' ∧ tn i s'.heap ∧ (∀ b ∈ fq, H' b = none) ∧ W i m H' := fun {s' H'} I' nx => by
        obtain ⟨mm, hmm, ww⟩ := hNx H' nx
        have pin' : ∀ b ∈ fq, ∀ o, z7.heap.get? b = some o → s'.heap.get? b = some o ∧ H' b = none := fun b hb o e =>
          let z := I'.pin (b, o) (List.mem_append_right _ (List.mem_append_right [] (mem_pinsAt hb e)))
          ⟨z.1, z.2.1⟩
        have hl1 : (wipe σ (ow.map (·.2))).length = σ8.length := by rw [← hw8, wipe_length]
        refine ⟨mm, hmm, i + 1, H', (I'.unpinned (pins := [])).weak hl1 (fun j v e => ?_), T.keep _ _ _ sr7 fun b hb o e => (pin' b hb o e).1, fun b hb => ?_, ww⟩
        · rw [← hw8] at e
          exact (wipe_some e).1
        · obtain ⟨o, e, _⟩ := T.obj _ _ sr7 b hb
          exact (pin' b hb o e).2
      cases b with
      | false =>
        simp only [Bool.false_eq_true, if_false] at qr9 ⊢
        exact fin1 J9 qr9
      | true =>
        simp only [if_true] at qr9 ⊢
        refine thnF (pe.run _ z9 σ8 H9 _ J9 qr9) fun z z10 ⟨yv, H10, J10, r10, acc, hD10, hz10, nx⟩ => ?_
        exact app_ok (X := blkH X px z3 H3 scope cw fq) J10 hD10 hz10 r10 fun z11 J11 => fin1 J11 nx
  exact codeAny_compStart_list lop (T.self X.A 0 _ _ _ sr4 lop)

theorem ps_setH {i : Nat} {y : Str} {py : Pos} {elt tg iter : Expr} {ifs : List Expr} {px : Addr × Obj} {scope : Scope} {ow : List (Str × Nat)} {pos spos : Pos} {wi : TI} {g : TG} {tt : TT} {te : TE} (hx1 : Hot1 X.A px) (hpx : px ∈ X.pn) (hN : X.N.Nodup) (hy : X.N[i]? = some y) (hyl : X.env.scope.names.lookup y = some .local)
    (hsw : swapsWith (.ListComp elt [⟨tg, iter, ifs, 0⟩] scope pos) (some (.Name y py)) spos.line X.env = pure true) (hit : PIH X tg iter wi) (bok : BlkOk X.N X.env.scope scope ow)
    (hg : ∀ (s : Shared) (H : Hp) (C : Addr) (cl : List (Str × Addr)) (fq : List Addr), PG (blkH X px s H scope (compEnvC scope cl C X.env) fq) tg g) (ht : ∀ (s : Shared) (H : Hp) (C : Addr) (cl : List (Str × Addr)) (fq : List Addr), PTs (blkH X px s H scope (compEnvC scope cl C X.env) fq) ifs tt)
    (he : ∀ (s : Shared) (H : Hp) (C : Addr) (cl : List (Str × Addr)) (fq : List Addr), PE (blkH X px s H scope (compEnvC scope cl C X.env) fq) elt te) (hs1x : ∀ x, foldedSetIterable iter X.env x = pure x := by intro _; rfl) :
    PS X (.Assign [.Name y py] (.ListComp elt [⟨tg, iter, ifs, 0⟩] scope pos) spos) (tAsg (tLc wi g tt te (ow.map (·.2))) (gName i)) := by
  refine ⟨fun pz s σ H D I h => ?_⟩
  rw [(exec_Assign_Name_used _ _ _ _ hsw)]
  refine (wpAny_bind (wpAny_standAt (wpAny_bind ?_)))
  show wpAny _ X.A (do let _ ← comprehension (.ListComp elt [⟨tg, iter, ifs, 0⟩] scope pos) scope X.env (firstIterPos [⟨tg, iter, ifs, 0⟩] pos) (newList []) false (eval iter X.env) (some (assign (.Name y py) X.env))) _ _ (s)
  have h : tLc wi g tt te (ow.map (·.2)) σ H (fun x H1 => gName i x σ H1 D.nx) := h
  refine wpAny_bind (thn (comp_hot (Qf1 := fun _ s' => SP X pz D .next s') hx1 hpx hN I hit bok hg ht he hs1x h fun L C s' m H' I' q hn f => ?_) fun _ s' hq => wpAny_pure (wpAny_pure hq))
  show wpAny _ _ (assign (.Name y py) X.env (Value.ref L)) _ _ _
  refine wpAny_assign_Name (store_ok2 (v := V.ref L) I' hN hy (.inl hyl) rfl (fun z2 J2 ⟨a, sb, ha⟩ => ?_) (.inr hyl))
  obtain ⟨f0, ⟨f1, f2, f3, f4, f5⟩⟩ := f
  have hac1 : C ≠ a := by
    rcases ha with z | z
    · rw [z]; exact f1
    · exact fun e1 => f4 y a z e1.symm
  refine ⟨m, hn.sameBut sb hac1, fun hk3 sb3 => ?_⟩
  exact ⟨_, H', J2.turned (t' := z2.toks) (fun b o hb e => (sb3.2 b hb).trans e) f0 f1 f3 f4 f5, q⟩
end
/-! ### over data -/
section
variable {X : Cx} {Γ : Gm} {W : WX} {P : List Nat}
theorem ds_setLcH {i : Nat} {y : Str} {py : Pos} {elt tg iter : Expr} {ifs : List Expr} {px : Addr × Obj} {scope : Scope} {own : List (Str × Nat)} {pos spos : Pos} {mi : M (List D)} {g : Tg} {mt : M Bool} {me : M D} (h1 : Hot1 X.A px) (h2 : px ∈ X.pn) (nd : X.N.Nodup) (at_ : X.N[i]? = some y) (loc : X.env.scope.names.lookup y = some .local)
    (sw : swapsWith (.ListComp elt [⟨tg, iter, ifs, 0⟩] scope pos) (some (.Name y py)) spos.line X.env = pure true) (hi : PIH X tg iter (tI Γ W mi)) (ok : blkC X.N X.env.scope scope own = true)
    (hg : ∀ (s : Shared) (H : Hp) (C : Addr) (cl : List (Str × Addr)) (fq : List Addr), PG (blkH X px s H scope (compEnvC scope cl C X.env) fq) tg (tG Γ g)) (ht : ∀ (s : Shared) (H : Hp) (C : Addr) (cl : List (Str × Addr)) (fq : List Addr), PTs (blkH X px s H scope (compEnvC scope cl C X.env) fq) ifs (tT Γ WF mt))
    (he : ∀ (s : Shared) (H : Hp) (C : Addr) (cl : List (Str × Addr)) (fq : List Addr), PE (blkH X px s H scope (compEnvC scope cl C X.env) fq) elt (tD Γ WF me)) (hgv : (g.ix.all fun i => (own.map (·.2)).contains i) = true) (hp : i ∉ P) (hs : ∀ x, foldedSetIterable iter X.env x = pure x := by intro _; rfl) :
    PS X (.Assign [.Name y py] (.ListComp elt [⟨tg, iter, ifs, 0⟩] scope pos) spos) (tS Γ W P (sSet i (ofO (oComp (own.map (·.2)) mi g mt me)))) := by
  refine PS.imp (ps_setH h1 h2 nd at_ loc sw hi (blkOk_by ok) hg ht he hs) fun D σ H h => ?_
  refine lc_read (fun i hi => by
    have := List.all_eq_true.mp hgv i hi
    simpa using this) ?_
  obtain ⟨G, ρ, s, h⟩ := h
  refine ⟨G, ρ, s, (post_bind.mp (post_bind.mp h)).imp (fun c ρ1 h1 v G1 H1 x1 r1 => ?_) fun c ρ' e => e.ew⟩
  obtain ⟨p, u, rfl, g, hp', oc, n, f⟩ := r1
  have st := x1.own_freeze g hp' n f
  have key : ∀ (d : PyData), Rp Γ.K (upd G1 p u) (.ref p) d → (if i < ρ1.length then Out.ok Flw.next (ρ1.set i (.fz d)) else .bad : Out Flw).Post (fun f ρ' => ∀ σ' G' H', Stp Γ.K G H σ ρ G' H' σ' ρ' → Kept P σ σ' → FlwOk Γ.K G H σ ρ G' H' σ' ρ' D f) (EWs Γ W P G H σ ρ) → gName i (.ref p) σ H1 D.nx := fun d r q => by
    obtain ⟨hl, q⟩ := set_post (σ := σ) (ρ' := ρ) q
    exact q _ _ H1 (st.tr (st.sr.setF hl r)) (kept_set hp)
  cases oc with
  | lst q => exact key (.list _) (.lst upd_same (q.mono (Sub.upd g))) h1
  | dK q =>
    cases q with
    | nil => exact key (.dict []) (.emp upd_same) h1
    | cons _ _ => exact h1.elim
  | dT q => exact h1.elim
  | dN q => exact h1.elim

/-! ### isinstance(n, (C, ..)), n the handled exception -/
def rIsET (K : PySem.W.Frag) (D a : Addr) : List V → Hp → VK → Prop := fun xs H Q => ∃ (tp : Addr) (cs : List V) (us : List Value) (b : Bool), xs = [.ref a, .ref tp] ∧ H tp = some (.tup cs) ∧ Paired ClsV cs us ∧ PySem.W.kitAny K (.ref D) us = some b ∧ Q (.bl b) H
theorem call_isXT {a D : Addr} {oe : Obj} (C : ExcC X.K D) (zc : Zc (.ref D) none oe) (fl : ∃ vs, oe.data = .fields vs) (hp : (a, oe) ∈ X.pn) : CallR X (.builtin "isinstance") (rIsET X.K D a) := by
  intro pz s σ H xs us Q I r h
  obtain ⟨tp, cs, ws, b, e0, hT, kk, hk, q⟩ := h
  subst e0
  obtain ⟨u, w, e1, ru, rw'⟩ : ∃ u w, us = [u, w] ∧ RelV (.ref a) u ∧ RelV (.ref tp) w := by
    cases r with
    | cons r1 r2 => cases r2 with | cons r2 r3 => cases r3; exact ⟨_, _, rfl, r1, r2⟩
  subst e1
  cases ru
  cases rw'
  have got := (I.pin (a, oe) (List.mem_append_left _ hp)).1
  obtain ⟨vs, hv⟩ := fl
  have inst : PySem.W.InstAt s.heap a oe D none := by
    cases oe with
    | mk oc oda od osl =>
      have z1 : oc = .ref D := zc.1
      have z2 : oda = none := zc.2
      have z3 : od = .fields vs := hv
      subst z1 z2 z3
      exact ⟨got, rfl, rfl, trivial⟩
  obtain ⟨_, its, rv, o, g1, g2, n, g3⟩ := (show ObjOk X.prog X.w H s.heap tp (.tup cs) from I.hok tp _ hT)
  have e3 := ClsV.all kk rv
  subst e3
  obtain ⟨oc, od, dt, sl⟩ := o
  simp only at g2 g3
  subst g2 g3
  exact PySem.W.kia_tup (PySem.W.handS_kitx_exc C.hg C.hk C.hs C.hd C.ha C.hn C.ht C.hm) I.kIn inst g1 hk (fun z => nomatch z) fun tk => ⟨.bl b, H, I.kept (t' := tk) fun _ _ z => z, rfl, q⟩
def tRefs (Cs : List Addr) : TA := fun σ H Q => Q (Cs.map V.ref) H
theorem pr_nil : PA X [] (tRefs []) := PA.imp pa_nil fun σ H Q h => h
theorem pr_cons {C : Addr} {Cs : List Addr} {e : Expr} {es : List Expr} (h1 : PE X e (tC (.ref C))) (h2 : PA X es (tRefs Cs)) (hs : starEach (e :: es) X.env = (false, eval e X.env) :: starEach es X.env := by rfl) : PA X (e :: es) (tRefs (C :: Cs)) :=
  PA.imp (pa_cons h1 h2 hs) fun σ H Q h => h
theorem clsV_refs : ∀ Cs : List Addr, Paired ClsV (Cs.map V.ref) (Cs.map Value.ref)
  | [] => .nil
  | C :: r => .cons (.own C) (clsV_refs r)
theorem de_isXT {a D : Addr} {oe : Obj} {i : Nat} {n : Str} {bo : Option Bool} {Cs : List Addr} {es : List Expr} {p pn pT : Pos} {kk : Nat} {pos : Pos} (fl : ∃ vs, oe.data = .fields vs) (hp : (a, oe) ∈ X.pn) (hn : PE X (.Name n pn) (tVar i)) (hT : PA X es (tRefs Cs))
    (facts : ∀ b, bo = some b → ExcC X.K D ∧ Zc (.ref D) none oe ∧ PySem.W.kitAny X.K (.ref D) (Cs.map Value.ref) = some b) (hg : Gl X "isinstance") (hm : X.mg "isinstance" = none) (hfew : Cs.length ≤ 1000 := by simp)
    (hs : starEach [.Name n pn, .Tuple es kk pT] X.env = (false, eval (.Name n pn) X.env) :: starEach [.Tuple es kk pT] X.env := by rfl) (hs2 : starEach [.Tuple es kk pT] X.env = (false, eval (.Tuple es kk pT) X.env) :: starEach [] X.env := by rfl) (hpl : (backTo pos (starEach [.Tuple es kk pT] X.env)).any (·.1) = false := by rfl) :
    PE X (.Call (.Name "isinstance" p) [.Name n pn, .Tuple es kk pT] [] pos) (tD Γ W (eIsX a i bo)) := by
  cases bo with
  | none =>
    refine ⟨fun pins s σ H Q I ⟨G, ρ, sr, h⟩ => ?_⟩
    unfold eIsX at h
    split at h <;> exact h.elim
  | some b =>
    obtain ⟨f1, f2, f3⟩ := facts b rfl
    refine PE.imp (pe_callB (r := rIsET X.K D a) (call_isXT f1 f2 fl hp) hg hm (by decide +kernel) (pa_cons hn (pa_cons (pe_tup hT) pa_nil hs2) hs) (by decide) (by decide) hs hpl) fun σ H Q ⟨G, ρ, s, h⟩ => ?_
    unfold eIsX at h
    split at h
    · rename_i a' e
      simp only at h
      split at h
      · rename_i ea
        subst ea
        refine ⟨.ref a', s.ok i _ e, ⟨by rw [List.length_map, sizeLine_eq]; omega, fun tp ntp => ?_⟩⟩
        have x2 := Ext0.new (o := .tup (Cs.map V.ref)) s.sub ntp
        exact ⟨tp, Cs.map V.ref, Cs.map Value.ref, b, rfl, upd_same, clsV_refs Cs, f3, h _ _ _ (s.ext x2) (.bl b)⟩
      · exact h.elim
    · exact h.elim
/-- or, from left to right -/
def xOr (x : Option Bool) (y : Option Bool) : Option Bool := match x with
  | some true => some true
  | some false => y
  | none => none
theorem isA_last {K : PySem.W.Frag} {D C : Addr} {oe : Obj} {bo : Option Bool} (h : ∀ b, bo = some b → ExcC K D ∧ Zc (.ref D) none oe ∧ PySem.W.kitOne K (.ref D) (.ref C) = some b) :
    ∀ b, xOr bo (some false) = some b → ExcC K D ∧ Zc (.ref D) none oe ∧ PySem.W.kitAny K (.ref D) (([C] : List Addr).map Value.ref) = some b := fun b hb => by
  cases bo with
  | none => cases hb
  | some k =>
    obtain ⟨h1, h2, h3⟩ := h k rfl
    refine ⟨h1, h2, ?_⟩
    cases k with
    | true => cases hb; exact kitAny_cons h3 (fun z => Bool.noConfusion z) (fun _ => rfl)
    | false => cases hb; exact kitAny_cons h3 (fun _ => kitAny_nil) (fun z => Bool.noConfusion z)
theorem isA_cons {K : PySem.W.Frag} {D C : Addr} {Cs : List Addr} {oe : Obj} {bo br : Option Bool} (h : ∀ b, bo = some b → ExcC K D ∧ Zc (.ref D) none oe ∧ PySem.W.kitOne K (.ref D) (.ref C) = some b)
    (hr : ∀ b, br = some b → ExcC K D ∧ Zc (.ref D) none oe ∧ PySem.W.kitAny K (.ref D) (Cs.map Value.ref) = some b) :
    ∀ b, xOr bo br = some b → ExcC K D ∧ Zc (.ref D) none oe ∧ PySem.W.kitAny K (.ref D) ((C :: Cs).map Value.ref) = some b := fun b hb => by
  cases bo with
  | none => cases hb
  | some k =>
    obtain ⟨h1, h2, h3⟩ := h k rfl
    refine ⟨h1, h2, ?_⟩
    cases k with
    | true => cases hb; exact kitAny_cons h3 (fun z => Bool.noConfusion z) (fun _ => rfl)
    | false => exact kitAny_cons h3 (fun _ => (hr b hb).2.2) (fun z => Bool.noConfusion z)
end
end DL


/-! DHk: sorted(set(xs)) of ints; a, b = [..], x; own dicts with ints as keys; sep.join(xs). -/
namespace DL
open PySem PySem.Spec L2
open PyProof.Rows hiding St
section
variable {P : Program} {w : World} {A : Around} {E : Value → Shared → Prop} {s : Shared}
theorem call_set_listI {l : Addr} {items : Array Value} (ns : List Int) {Q : Value → Shared → Prop} (hh : A.handled = none) (hl : s.heap.IsList l items) (hit : IntsAre items.toList ns) (hb : ns.length + 1 < scanBound)
    (h : ∀ (hp1 : Heap) (tk1 c : Nat), SetR w hp1 s.heap.objs.size (fun j => decide (j ∈ ns)) c → c ≤ ns.length → (∀ b o, s.heap.get? b = some o → hp1.get? b = some o) → Q (.ref s.heap.objs.size) { s with heap := hp1, toks := tk1 }) :
    wpAny (model P w) A (call (.type "set") [.ref l]) Q E s := by
  have hsz1 : items.size = ns.length := by
    have q := IntsAre.length hit
    rw [Array.length_toList] at q
    exact q
  obtain ⟨c, tl1, hmr1⟩ := F.called_set.mro
  have hmd1 := F.called_set.made
  have hsb1 := F.called_set.sub
  refine wpAny_call (codeAny_of_tree (?_))
  show wpAny _ _ (callAny (Value.type "set") _) _ _ _
  refine wpAny_pure ⟨Code.quiet_builtin _ (by decide +kernel), (codeAny_builtin F.entry_type_call ?_)⟩
  rw [(Around.under_plain (weight_type_call_type "set" [.ref l] []) rfl)]
  have g1x := F.called_set.notType
  have g2x := F.called_set.canCreate
  have hct1 := F.typeCall_set_1 (.ref l)
  repeat (any_goals (first | assumption | (wp_step)))

  refine codeAny_mono (code_set_led1 (.ref l) (E := E) (Q₁ := fun ob s₁ => ob = .ref s.heap.objs.size ∧ s₁ = { s with heap := s.heap.push { cls := .type "set", dict := none, data := .set #[] 0 (.fresh 0 0 (!w.params.followText "set-order")) } }) ⟨rfl, rfl⟩) fun rr s₁ hrx => ?_
  cases rr with
  | error e => exact hrx
  | ok flw =>
    cases flw with
    | ret ob =>
      obtain ⟨rfl, rfl⟩ := hrx
      have hSx : (s.heap.push { cls := .type "set", dict := none, data := .set #[] 0 (.fresh 0 0 (!w.params.followText "set-order")) }).get? s.heap.objs.size = some { cls := .type "set", dict := none, data := .set #[] 0 (.fresh 0 0 (!w.params.followText "set-order")) } := Heap.get?_push_size _ rfl
      have hTx : Shared.TypeIs { s with heap := s.heap.push { cls := .type "set", dict := none, data := .set #[] 0 (.fresh 0 0 (!w.params.followText "set-order")) } } (.ref s.heap.objs.size) "set" := ⟨_, hSx, rfl⟩
      have hli1 := F.called_set.init.lookup
      have hbi1 := F.called_set.init.bind (.ref s.heap.objs.size)
      repeat (any_goals (first | assumption | (wp_step)))

      refine codeAny_mono (codeAny_call_builtin (R := wants (fun rr s₂ => rr = .none ∧ ∃ hp1 tk1 c, s₂ = { s with heap := hp1, toks := tk1 } ∧ SetR w hp1 s.heap.objs.size (fun j => decide (j ∈ ns)) c ∧ c ≤ ns.length ∧
          (∀ b o, s.heap.get? b = some o → hp1.get? b = some o)) E) F.called_set.init.plain F.entry_set_init (check_set_init_1 hTx ?_)) fun rr₂ s₂ hrx₂ => ?_
      · obtain ⟨oll, hox, hc2, nl, hd2⟩ := hl
        obtain ⟨oc1, od1, od2, os2⟩ := oll
        simp only at hc2 hd2
        subst hc2; subst hd2
        have hoy : (s.heap.push { cls := .type "set", dict := none, data := .set #[] 0 (.fresh 0 0 (!w.params.followText "set-order")) }).get? l = some { cls := .type "list", dict := od1, data := .seq items nl, slots := os2 } := Heap.get?_push_of_some _ hox
        have hsl1 := F.sub_list_set
        have hsl2 := F.sub_list_frozenset
        have hne1 : (Value.type "list" == Value.type "dict") = false := by decide
        have hlx : (s.heap.push { cls := .type "set", dict := none, data := .set #[] 0 (.fresh 0 0 (!w.params.followText "set-order")) }).IsList l items := ⟨_, hoy, rfl, nl, rfl⟩
        unfold Builtin.«set.__init__» noKeywords Builtin.Frozenset.updateFrom
        generalize hPI : pyIter = PI
        wp_walk
        subst hPI

        refine wpAny_pyIter_list hlx ?_
        refine wpAny_bind (wpAny_runValue ?_)
        have hlSx : l < s.heap.objs.size := Heap.lt_size hox
        have hh3x : A.in1.in1.in1.handled = none := by simp [hh]
        have hz1x : (s.heap.push { cls := .type "set", dict := none, data := .set #[] 0 (.fresh 0 0 (!w.params.followText "set-order")) }).objs.size = s.heap.objs.size + 1 := Heap.size_push ..
        have hneJ : l ≠ (s.heap.push { cls := .type "set", dict := none, data := .set #[] 0 (.fresh 0 0 (!w.params.followText "set-order")) }).objs.size := by
          rw [Heap.size_push]; exact Nat.ne_of_lt (Nat.lt_succ_of_lt hlSx)
        have hSfx : s.heap.objs.size ∉ [(s.heap.push { cls := .type "set", dict := none, data := .set #[] 0 (.fresh 0 0 (!w.params.followText "set-order")) }).objs.size, l] := by
          rw [Heap.size_push]; simp only [List.mem_cons, List.mem_singleton, List.not_mem_nil, or_false, not_or]
          exact ⟨Nat.ne_of_lt (Nat.lt_succ_self _), Nat.ne_of_gt hlSx⟩
        have hvx : ∀ (i : Nat) (v : Value), items[i]? = some v → ∃ k t, ns[i]? = some k ∧ v = .int k t := fun i v hv => by
          have hi : i < ns.length := by rw [← hsz1]; exact (Array.getElem?_eq_some_iff.mp hv).1
          obtain ⟨t, e⟩ := PyProof.Rows.IntsAre.int_at hit i v (by rw [Array.getElem?_toList]; exact hv)
          refine ⟨ns[i], t, List.getElem?_eq_getElem hi, ?_⟩
          rw [e, List.getD_eq_getElem?_getD, List.getElem?_eq_getElem hi] <;> rfl
        refine set_update_ints ((Walks.list hh3x _ l hneJ items).toS) s.heap.objs.size
          hSfx ns hsz1 hb hvx (items.size - 0) 0 _ (by omega) (Nat.zero_le _)
          ⟨⟨_, Heap.get?_push_size _ rfl, rfl, rfl⟩, (hlx.push _)⟩ ?hS0 ?hR
        case hS0 =>
          have hgx : ((s.heap.push { cls := .type "set", dict := none, data := .set #[] 0 (.fresh 0 0 (!w.params.followText "set-order")) }).push { cls := .type "list_iterator", data := .fields #[.ref l, .int 0 0] }).get? s.heap.objs.size
              = some { cls := .type "set", dict := none, data := .set #[] 0 (.fresh 0 0 (!w.params.followText "set-order")) } := Heap.get?_push_of_some _ hSx
          exact ⟨0, Nat.le_refl 0, setR_new_at hgx⟩
        case hR =>
          intro t1 c1 hmx hc1 hS1
          obtain ⟨hp1, gg2, dd1, tk2, os1⟩ := t1
          have eg1 : gg2 = s.gens := hmx.gens
          have ed1 : dd1 = s.drawn := hmx.drawn
          have eo1 : os1 = s.os := hmx.os
          subst eg1; subst ed1; subst eo1
          show wpAny _ _ _ _ _ _
          refine wpAny_pure ?_
          show wpAny _ _ (ret Value.none) _ _ _
          rw [hsz1] at hc1
          refine wpAny_pure ⟨rfl, hp1, tk2, c1, rfl, hS1, hc1, fun b o e => ?_⟩
          have hb0x : b < s.heap.objs.size := Heap.lt_size e
          have hb1x : b ≠ s.heap.objs.size := Nat.ne_of_lt hb0x
          have hb2x : b ≠ (s.heap.push { cls := .type "set", dict := none, data := .set #[] 0 (.fresh 0 0 (!w.params.followText "set-order")) }).objs.size := by
            rw [Heap.size_push]; exact Nat.ne_of_lt (Nat.lt_succ_of_lt hb0x)
          exact hmx.heap b o (by simp only [List.mem_cons, List.mem_singleton, List.not_mem_nil, or_false, not_or]; exact ⟨hb1x, hb2x⟩) (Heap.get?_push_of_some _ (Heap.get?_push_of_some _ e))

      · cases rr₂ with
        | error e => exact hrx₂
        | ok flw₂ =>
          cases flw₂ with
          | ret rr =>
            obtain ⟨rfl, hp1, tk1, c1, rfl, hS1, hc1, hk1⟩ := hrx₂
            repeat (any_goals (first | assumption | (wp_step)))
            exact h _ _ _ hS1 hc1 hk1
          | _ => exact hrx₂.elim
    | _ => exact hrx.elim
end
end DL

/-! DHl: sorted(set(xs)); a, b = [..], x; own dicts with ints as keys; sep.join(xs). -/
namespace DL
open PySem PySem.Spec L2
open PyProof.Rows hiding St
/-! ### sorted(set(xs)) -/
def sortU (ns : List Int) : List Int := (nub ns).mergeSort fun a b => decide (a ≤ b)
theorem sortU_mem {ns : List Int} {k : Int} : k ∈ sortU ns ↔ k ∈ ns := by
  unfold sortU
  rw [List.mem_mergeSort, nub_mem]
theorem sortU_lt (ns : List Int) : (sortU ns).Pairwise (· < ·) := by
  have le : (sortU ns).Pairwise (fun a b => decide (a ≤ b) = true) := by
    unfold sortU
    exact List.pairwise_mergeSort (fun a b c h1 h2 => by simp only [decide_eq_true_eq] at *; omega) (fun a b => by simp only [Bool.or_eq_true, decide_eq_true_eq]; omega) _
  have nd : (sortU ns).Nodup := by
    unfold sortU
    exact (List.mergeSort_perm _ _).nodup_iff.mpr (nub_nodup ns)
  exact List.Pairwise.imp₂ (fun a b h1 h2 => by have h1 := of_decide_eq_true h1; omega) le nd
theorem asc_one : ∀ {l m : List Int}, l.Pairwise (· < ·) → m.Pairwise (· < ·) → (∀ k, k ∈ l ↔ k ∈ m) → l = m
  | [], [], _, _, _ => rfl
  | [], b :: m, _, _, h => by have := (h b).mpr (by simp); cases this
  | a :: l, [], _, _, h => by have := (h a).mp (by simp); cases this
  | a :: l, b :: m, hl, hm, h => by
    obtain ⟨l1, l2⟩ := List.pairwise_cons.mp hl
    obtain ⟨m1, m2⟩ := List.pairwise_cons.mp hm
    have e : a = b := by
      rcases List.mem_cons.mp ((h a).mp (by simp)) with z | z
      · exact z
      · rcases List.mem_cons.mp ((h b).mpr (by simp)) with y | y
        · exact y.symm
        · have := m1 a z; have := l1 b y; omega
    subst e
    refine congrArg (a :: ·) (asc_one l2 m2 fun k => ⟨fun hk => ?_, fun hk => ?_⟩)
    · rcases List.mem_cons.mp ((h k).mp (List.mem_cons_of_mem _ hk)) with z | z
      · subst z; exact absurd (l1 k hk) (by omega)
      · exact z
    · rcases List.mem_cons.mp ((h k).mpr (List.mem_cons_of_mem _ hk)) with z | z
      · subst z; exact absurd (m1 k hk) (by omega)
      · exact z
def gSortSet : D → Option D
  | .list xs => match intsOf xs with
    | some ns => if ns.length ≤ 4000 ∧ (nub ns).length < 64 then some (.list ((sortU ns).map .int)) else none
    | none => none
  | _ => none
def tSortSet (K : PySem.W.Frag) (ta : TE) : TE := fun σ H Q => ta σ H fun x H1 => ∃ (l : Addr) (ns : List Int), x = .ref l ∧ SqL K H1 l (ns.map V.int) ∧ ns.length ≤ 4000 ∧ (nub ns).length < 64 ∧ ∀ p : Addr, H1 p = none → Q (.ref p) (upd H1 p (.lst ((sortU ns).map V.int)))
section
variable {X : Cx} {Γ : Gm} {W : WX} {pos : Pos}
theorem pe_sortSet {a : Expr} {ta : TE} {p p2 q : Pos} (gso : Gl X "sorted") (mso : X.mg "sorted" = none) (gset : Gl X "set") (mset : X.mg "set" = none) (ha : PE X a ta) (calm : X.calm = true := by rfl)
    (one : starEach [a] X.env = (false, eval a X.env) :: starEach [] X.env := by rfl) : PE X (.Call (.Name "sorted" p) [.Call (.Name "set" p2) [a] [] q] [] pos) (tSortSet X.K ta) := by
  refine ⟨fun pins s σ H Q J hq => ?_⟩
  refine PyProof.Rows.Call_ (ld_blt J gso mso (show bootBuiltins "sorted" = some (.builtin "sorted") by decide +kernel) (PyProof.Rows.callWith_builtin1 (PyProof.Rows.args_cons ?_ rfl) rfl rfl))
  refine PyProof.Rows.Call_ (ld_blt J gset mset PyProof.Rows.boot_set (PyProof.Rows.callWith_type1 (PyProof.Rows.args_cons (thn (ha.run pins s σ H _ J hq) fun v s1 ⟨x, H1, J1, r1, w⟩ => PyProof.Rows.args_nil ?_) one) one rfl))
  obtain ⟨l, ns, e0, sq, small, few, w⟩ := w
  subst e0
  cases r1
  obtain ⟨its, rv, tup, hz⟩ := J1.list sq
  have ia : PyProof.Rows.IntsAre its.toArray.toList ns := ints_of_vals rv
  refine call_set_listI ns (J1.ok.hd calm) tup.isList ia (by unfold scanBound; omega) fun h' tk c sr cle keep => ?_
  refine PyProof.Rows.args_nil ?_
  have J2 : Inv X pins σ H1 { s1 with heap := h', toks := tk } := J1.kept keep
  have len : c = (nub ns).length := by
    obtain ⟨o, es, ep, t, ho, hex, hdt, _, nd, mem, _, hf, hn, _, _⟩ := id sr
    have p : (es.toList.map keyOf).Perm (nub ns) := by
      refine (List.perm_ext_iff_of_nodup nd (nub_nodup ns)).mpr fun k => ?_
      rw [nub_mem, ← mem k, decide_eq_true_eq]
    have := p.length_eq
    simp at this
    omega
  refine sorted_set sr (J2.ok.hd calm) (by omega) fun s' p out c2 ms k g o hp hg hi hs hm hl => ?_
  have em : ms = sortU ns := asc_one hs (sortU_lt ns) fun z => by rw [hm z, sortU_mem, decide_eq_true_eq]
  subst em
  have hlen : ((sortU ns).map V.int).length ≤ sizeLine := by rw [List.length_map, hl, sizeLine_eq]; omega
  have hn : H1 p = none := J2.hok.fresh hp
  have J3 : Inv X pins σ (upd H1 p (.lst ((sortU ns).map V.int))) { ({ s1 with heap := h', toks := tk } : Shared) with heap := s'.heap, gens := s'.gens, drawn := s'.drawn, toks := s'.toks } :=
    J2.call (ch := []) (Un.laid k hp hn) (J2.hok.laid k hp ⟨hlen, out.toList, c2, vals_of_ints hi, hg⟩) (by rw [g]; exact J2.bare) (fun _ z => nomatch z)
  have e : s' = { ({ s1 with heap := h', toks := tk } : Shared) with heap := s'.heap, gens := s'.gens, drawn := s'.drawn, toks := s'.toks } := by
    cases s'
    cases s1
    cases o
    rfl
  rw [e]
  exact ⟨.ref p, _, J3, rfl, w p hn⟩
theorem de_sortSet {a : Expr} {m : M D} {p p2 q : Pos} (gso : Gl X "sorted") (mso : X.mg "sorted" = none) (gset : Gl X "set") (mset : X.mg "set" = none) (ha : PE X a (tD Γ W m)) (hK : X.K = Γ.K := by rfl) (calm : X.calm = true := by rfl)
    (one : starEach [a] X.env = (false, eval a X.env) :: starEach [] X.env := by rfl) : PE X (.Call (.Name "sorted" p) [.Call (.Name "set" p2) [a] [] q] [] pos) (tD Γ W (eUn gSortSet m)) := by
  refine PE.imp (pe_sortSet gso mso gset mset ha calm one) fun σ H Q ⟨G, ρ, s, h⟩ => ⟨G, ρ, s, (post_bind.mp h).imp (fun d ρ1 h1 v G1 H1 x1 r1 => ?_) fun _ _ e => e⟩
  obtain ⟨z, hz, w⟩ := opt_post h1
  unfold gSortSet at hz
  split at hz
  · rename_i xs
    split at hz
    · rename_i ns hns
      split at hz
      · rename_i small
        cases hz
        have e := intsOf_eq hns
        subst e
        cases r1 with | lst sq ra =>
        have e2 := ra.ints
        subst e2
        rw [hK]
        refine ⟨_, ns, rfl, SqL.of (x1.sr.sub _ _ sq), small.1, small.2, fun p np => ?_⟩
        have e := Ext0.new (o := .lst ((sortU ns).map V.int)) x1.sr.sub np
        exact w (.ref p) _ _ (x1.tr (x1.sr.ext e)) (.lst upd_same (RpAll.of_ints _))
      · cases hz
    · cases hz
  · cases hz
/-! ### a, b = [..], x -/
def sParO1 (i j : Nat) (mo : M OC) (mb : M D) : M Flw := mo.bind fun c => mb.bind fun d ρ => if i < ρ.length ∧ j < ρ.length then .ok .next ((ρ.set i (.own c)).set j (.fz d)) else .bad
theorem ds_parO1 {P : List Nat} {i j : Nat} {x y : Str} {a b : Expr} {mb : M D} {mo : M OC} {px py pt : Pos} {kt k2 pt2} (hc : X.calm = true) (hN : X.N.Nodup) (hi : X.N[i]? = some x) (hj : X.N[j]? = some y) (hij : i ≠ j)
    (hx : X.env.scope.names.lookup x = some .local) (hy : X.env.scope.names.lookup y = some .local) (ha : PE X a (tO Γ W mo)) (hb : PE X b (tD Γ W mb)) (hp : i ∉ P) (hp2 : j ∉ P)
    (hw : swappedStores [.Tuple [.Name x px, .Name y py] kt pt] (.Tuple [a, b] k2 pt2) X.env = pure (some [x, y]))
    (hs : swapsWithSole [.Tuple [.Name x px, .Name y py] kt pt] (.Tuple [a, b] k2 pt2) pos.line X.env = pure false := by rfl)
    (hs1 : starEach [a, b] X.env = (false, eval a X.env) :: starEach [b] X.env := by rfl) (hs2 : starEach [b] X.env = (false, eval b X.env) :: starEach [] X.env := by rfl) :
    PS X (.Assign [.Tuple [.Name x px, .Name y py] kt pt] (.Tuple [a, b] k2 pt2) pos) (tS Γ W P (sParO1 i j mo mb)) := by
  refine PS.imp (ps_par hc hN hi hj hij hx hy (pa2 ha hb hs1 hs2) hw hs) fun D σ H ⟨G, ρ, s, h⟩ => ?_
  refine ⟨G, ρ, s, (post_bind.mp h).imp (fun c ρ1 h1 v G1 H1 x1 r1 => ?_) fun c ρ' e => e.ew⟩
  refine ⟨G1, ρ1, x1.sr, (post_bind.mp h1).imp (fun d ρ2 h2 u G2 H2 x2 r2 => ?_) fun c ρ' e => EW.tr x1 e.ew⟩
  by_cases hl : i < ρ2.length ∧ j < ρ2.length
  · simp only [if_pos hl] at h2
    obtain ⟨a2, o2, rfl, g, hu, oc, n, f⟩ := r1
    have x12 := x1.tr x2
    have g2 : G2 a2 = none := x2.fr.nog a2 o2 hu g n
    have h2' : H2 a2 = some o2 := x2.fr.keep a2 o2 hu n
    have n2 : ¬ Ow σ ρ2 a2 := ow_set x2 hu n
    have y1 := setO_stp x12 (i := i) hl.1 g2 h2' (oc.mono x2.fr.ext) n2 f
    have y2 := y1.tr (y1.sr.setF (i := j) (by rw [List.length_set]; exact hl.2) r2)
    exact ⟨_, _, rfl, h2 _ G2 H2 y2 fun k hk => (kept_set (P := P) hp2 k hk).trans (kept_set (P := P) hp k hk)⟩
  · simp only [if_neg hl] at h2
    exact h2.elim
end
/-- a, b = x, [..] where one of the names is a cell -/
theorem ds_parOG {X : Cx} {Γ : Gm} {W : WX} {pos : Pos} {P : List Nat} {i j : Nat} {x y : Str} {a b : Expr} {ma : M D} {mo : M OC} {px py pt : Pos} {kt k2 pt2} (hc : X.calm = true) (hN : X.N.Nodup) (hi : X.N[i]? = some x) (hj : X.N[j]? = some y)
    (hx : Loc X.env.scope x) (hy : Loc X.env.scope y) (ha : PE X a (tD Γ W ma)) (hb : PE X b (tO Γ W mo)) (hp : i ∉ P) (hp2 : j ∉ P)
    (hw : swappedStores [.Tuple [.Name x px, .Name y py] kt pt] (.Tuple [a, b] k2 pt2) X.env = pure none := by rfl)
    (hs : swapsWithSole [.Tuple [.Name x px, .Name y py] kt pt] (.Tuple [a, b] k2 pt2) pos.line X.env = pure false := by rfl)
    (h1 : (assignEach [.Tuple [.Name x px, .Name y py] kt pt] X.env).map (·.2) = [assign (.Tuple [.Name x px, .Name y py] kt pt) X.env] := by rfl)
    (hs1 : starEach [a, b] X.env = (false, eval a X.env) :: starEach [b] X.env := by rfl) (hs2 : starEach [b] X.env = (false, eval b X.env) :: starEach [] X.env := by rfl)
    (hf : X.fn x = true ∨ X.env.scope.names.lookup x = some .local := by first | exact .inl rfl | exact .inr rfl | assumption) (hf2 : X.fn y = true ∨ X.env.scope.names.lookup y = some .local := by first | exact .inl rfl | exact .inr rfl | assumption)
    (hn : (assignEach [.Name x px, .Name y py] X.env).length = 2 := by rfl) (hst : (assignEach [.Name x px, .Name y py] X.env).findIdx? (·.1) = none := by rfl) (hK : X.K = Γ.K := by rfl) :
    PS X (.Assign [.Tuple [.Name x px, .Name y py] kt pt] (.Tuple [a, b] k2 pt2) pos) (tS Γ W P (sParO i j ma mo)) := by
  refine PS.imp (ps_asg (pe_tup (pa2 ha hb hs1 hs2)) (pg_tup hc (pgs_cons (pg_name hN hi hx hf) (pgs_cons (pg_name hN hj hy hf2) pgs_nil)) hn hst) hs hw h1) fun D σ H ⟨G, ρ, s, h⟩ => ?_
  refine ⟨G, ρ, s, (post_bind.mp h).imp (fun d ρ1 h1 v G1 H1 x1 r1 => ?_) fun c ρ' e => e.ew⟩
  refine ⟨G1, ρ1, x1.sr, (post_bind.mp h1).imp (fun c ρ2 h2 u G2 H2 x2 r2 => ?_) fun c ρ' e => EW.tr x1 e.ew⟩
  by_cases hl : i < ρ2.length ∧ j < ρ2.length
  · simp only [if_pos hl] at h2
    obtain ⟨a2, o2, rfl, g, hu, oc, n, f⟩ := free_tr x1 r2
    refine ⟨by show (2 : Nat) ≤ sizeLine; decide, fun p np => ?_⟩
    have x3 := x2.sr.ext (Ext0.newH (o := .tup [v, .ref a2]) x2.sr.sub np)
    have hu3 := x3.fr.keep a2 o2 hu n
    have y1 := x3.sr.setF hl.1 ((r1.mono x2.fr.ext).mono x3.fr.ext)
    have n1 : ¬ Ow (σ.set i (some v)) (ρ2.set i (.fz d)) a2 := fun z => by
      rcases y1.ow a2 z with z | z
      · exact n z
      · rw [hu3] at z; cases z
    have y2 := setO_stp (((x1.tr x2).tr x3).tr y1) (i := j) (by rw [List.length_set]; exact hl.2) g hu3 oc n1 f
    refine ⟨p, _, rfl, .inl (.inl upd_same), rfl, _, _, rfl, _, _, rfl, rfl, ?_⟩
    exact h2 _ G2 _ y2 fun k hk => (kept_set (P := P) hp2 k hk).trans (kept_set (P := P) hp k hk)
  · simp only [if_neg hl] at h2
    exact h2.elim
/-! ### list(x) as an own list -/
def oListOf (m : M D) : M OC := m.bind fun d => match d with
  | .list xs => M.ret (.lst xs)
  | .tuple xs => M.ret (.lst xs)
  | _ => M.fail
section
variable {X : Cx} {Γ : Gm} {W : WX} {pos : Pos} {P : List Nat}
theorem do_listOf {e : Expr} {m : M D} {p : Pos} (hg : Gl X "list") (hm : X.mg "list" = none) (he : PE X e (tD Γ W m)) (hK : X.K = Γ.K := by rfl)
    (hs : starEach [e] X.env = (false, eval e X.env) :: starEach [] X.env := by rfl) (hpl : (backTo pos (starEach [] X.env)).any (·.1) = false := by rfl) : PE X (.Call (.Name "list" p) [e] [] pos) (tO Γ W (oListOf m)) := by
  refine PE.imp (pe_callTy call_list_of hg hm (by decide +kernel) (pa_cons he pa_nil hs) (by decide) (by decide) hs hpl) fun σ H Q ⟨G, ρ, s, h⟩ => ⟨G, ρ, s, (post_bind.mp h).imp (fun d ρ1 h1 v G1 H1 x1 r1 => ?_) fun c ρ' e => e⟩
  have fin : ∀ {vs : List V} {xs : List D}, RpAll Γ.K G1 vs xs → (M.ret (OC.lst xs) ρ1).Post (fun oc ρ' => ∀ v G' H', Stp Γ.K G H σ ρ G' H' σ ρ' → Free Γ.K G H σ ρ G' H' σ ρ' v oc → Q v H') (EW Γ W G H σ ρ) → ∀ p, H1 p = none → Q (.ref p) (upd H1 p (.lst vs)) := fun {vs xs} w q p np => by
    have y := x1.sr.ext (Ext0.newH (o := .lst vs) x1.sr.sub np)
    refine q _ G1 _ (x1.tr y) ⟨p, _, rfl, x1.sr.sub.none np, upd_same, .lst w, fun ⟨i, c, z1, z2⟩ => ?_, x1.was (.inr np)⟩
    obtain ⟨a, u, f1, f2, f3, f4⟩ := x1.sr.own z1
    rw [z2] at f1; cases f1
    rw [np] at f3; cases f3
  split at h1
  · cases r1 with | lst g w =>
    rw [hK]
    exact ⟨_, _, rfl, .inl (SqL.of (x1.sr.sub _ _ g)), fin w h1⟩
  · cases r1 with | tup g w =>
    rw [hK]
    exact ⟨_, _, rfl, .inr (x1.sr.sub.seqT g), fin w h1⟩
  · exact h1.elim
end
/-! ### own dicts, ints as keys -/
def putQ (kvs : List (Key × D)) (k : Key) (v : D) : List (Key × D) := if (kvs.any fun kv => decide (kv.1 = k)) = true then kvs.map (fun kv => if kv.1 = k then (kv.1, v) else kv) else kvs ++ [(k, v)]
def valQ (kvs : List (Key × D)) (k : Key) : Option D := (kvs.find? fun kv => decide (kv.1 = k)).map (·.2)
section
variable {K : PySem.W.Frag} {G : Hp}
theorem kq_any {k : Key} : ∀ {vs : List (Key × V)} {ds : List (Key × D)}, KvOk K G vs ds → (vs.any fun kv => decide (kv.1 = k)) = ds.any fun kv => decide (kv.1 = k)
  | [], _, h => by cases h; rfl
  | v :: vs, _, h => by
    cases h with
    | cons h1 h2 => simp only [List.any_cons, kq_any h2, h1.1]
theorem kq_set {k : Key} {v : V} {d : D} (r : Rp K G v d) : ∀ {vs : List (Key × V)} {ds : List (Key × D)}, KvOk K G vs ds → KvOk K G (vs.map fun kv => if kv.1 = k then (kv.1, v) else kv) (ds.map fun kv => if kv.1 = k then (kv.1, d) else kv)
  | [], _, h => by cases h; exact .nil
  | w :: vs, _, h => by
    cases h with
    | cons h1 h2 =>
      refine .cons ?_ (kq_set r h2)
      simp only [h1.1]
      split
      · exact ⟨rfl, r⟩
      · exact ⟨h1.1, h1.2⟩
theorem kq_app {a : List (Key × V)} {b : List (Key × D)} {v : Key × V} {d : Key × D} (h : v.1 = d.1 ∧ Rp K G v.2 d.2) (r : KvOk K G a b) : KvOk K G (a ++ [v]) (b ++ [d]) := by
  induction r with
  | nil => exact .cons h .nil
  | cons h1 _ ih => exact .cons h1 ih
theorem kq_put {k : Key} {v : V} {d : D} (r : Rp K G v d) {vs : List (Key × V)} {ds : List (Key × D)} (h : KvOk K G vs ds) : KvOk K G (putK vs k v) (putQ ds k d) := by
  unfold putK putQ
  rw [kq_any h]
  split
  · exact kq_set r h
  · exact kq_app ⟨rfl, r⟩ h
theorem kq_get {k : Key} {d : D} : ∀ {vs : List (Key × V)} {ds : List (Key × D)}, KvOk K G vs ds → valQ ds k = some d → ∃ v, valV vs k = some v ∧ Rp K G v d
  | [], _, h, e => by cases h; cases e
  | w :: vs, _, h, e => by
    cases h with
    | cons h1 h2 =>
      unfold valQ at e
      rw [List.find?_cons] at e
      unfold valV
      rw [List.find?_cons, h1.1]
      split at e
      · rename_i q
        cases e
        simp only [q]
        exact ⟨_, rfl, h1.2⟩
      · rename_i q
        simp only [q]
        exact kq_get h2 e
end
def slotQ {α : Type} (i : Nat) (f : List (Key × D) → M α) : M α := fun ρ => match ρ[i]? with
  | some (.own (.dK kvs)) => f kvs ρ
  | _ => .bad
theorem slotQ_post {α : Type} {i : Nat} {f : List (Key × D) → M α} {ρ : Rho} {Q : α → Rho → Prop} {E : Exc → Rho → Prop} (h : (slotQ i f ρ).Post Q E) : ∃ kvs, ρ[i]? = some (.own (.dK kvs)) ∧ (f kvs ρ).Post Q E := by
  unfold slotQ at h
  split at h
  · rename_i kvs e; exact ⟨kvs, e, h⟩
  · exact h.elim
theorem SR.ownQ {K : PySem.W.Frag} {G H : Hp} {σ : St} {ρ : Rho} (s : SR K G H σ ρ) {i : Nat} {ds : List (Key × D)} (h : ρ[i]? = some (.own (.dK ds))) : ∃ a vs, σ[i]? = some (some (.ref a)) ∧ H a = some (.dK vs) ∧ KvOk K G vs ds := by
  obtain ⟨a, u, e1, e2, e3, e4⟩ := s.own h
  cases e4 with
  | dK r => exact ⟨a, _, e1, e3, r⟩
def eGetK (i : Nat) (mk : M D) : M D := slotQ i fun _ => mk.bind fun kd => slotQ i fun kvs => match kd with
  | .int k => M.opt (valQ kvs (.inl k))
  | _ => M.fail
def sSetK (i : Nat) (mv mk : M D) : M Flw := mv.bind fun d => slotQ i fun _ => mk.bind fun kd => slotQ i fun kvs => match kd with
  | .int k => if kvs.length < 16777216 then fun ρ => .ok .next (ρ.set i (.own (.dK (putQ kvs (.inl k) d)))) else M.fail
  | _ => M.fail
section
variable {X : Cx} {Γ : Gm} {W : WX} {P : List Nat} {i : Nat} {x : Str} {px pos : Pos} {ke ev : Expr} {mv mk : M D}
theorem de_getK (hu : X.A.units + 1 < cLine) (hx : PE X (.Name x px) (tVar i)) (hk : PE X ke (tD Γ W mk)) (hs : NoSl ke := by intro _ _; rfl) : PE X (.Subscript (.Name x px) ke pos) (tD Γ W (eGetK i mk)) := by
  refine PE.imp (pe_dget hu hx hk hs) fun σ H Q ⟨G, ρ, s, h⟩ => ?_
  obtain ⟨kvs0, e, h2⟩ := slotQ_post h
  obtain ⟨a, vs0, e1, e2, _⟩ := s.ownQ e
  refine ⟨.ref a, e1, G, ρ, s, (post_bind.mp h2).imp (fun kd ρ2 h3 u G2 H2 x2 r2 => ?_) fun _ _ e => e⟩
  obtain ⟨kvs, f, h4⟩ := slotQ_post h3
  split at h4
  · rename_i k
    obtain ⟨d, hd, h6⟩ := opt_post h4
    obtain ⟨a', vs, g1, g2, g3⟩ := x2.sr.ownQ f
    have g1' := g1
    rw [e1] at g1'; cases g1'
    cases r2
    obtain ⟨v, q1, q2⟩ := kq_get g3 hd
    exact ⟨a, v, rfl, q1 ▸ DGet.k (k := .inl k) g2, h6 v G2 _ x2 q2⟩
  · exact h4.elim
theorem ds_setK (hu : X.A.units + 1 < cLine) (hx : PE X (.Name x px) (tVar i)) (hv : PE X ev (tD Γ W mv)) (hk : PE X ke (tD Γ W mk))
    (ha : ∀ v, assign (.Subscript (.Name x px) ke pos) X.env v = (do
      let ov ← holding [v] (eval (.Name x px) X.env)
      let iv ← holding [v, ov] (eval ke X.env)
      standAt pos
      holding [v, ov, iv] (setItem ov iv v)
      release [v, ov, iv] []) := by intro _; rfl) {spos : Pos} (hs : swapsWithSole [.Subscript (.Name x px) ke pos] ev spos.line X.env = pure false := by rfl) (hw : swappedStores [.Subscript (.Name x px) ke pos] ev X.env = pure none := by rfl)
    (h1 : (assignEach [.Subscript (.Name x px) ke pos] X.env).map (·.2) = [assign (.Subscript (.Name x px) ke pos) X.env] := by rfl) :
    PS X (.Assign [.Subscript (.Name x px) ke pos] ev spos) (tS Γ W P (sSetK i mv mk)) := by
  refine PS.imp (ps_asg hv (pg_sub hx hk (set_dict hu) ha) hs hw h1) fun D σ H ⟨G, ρ, s, h⟩ => ⟨G, ρ, s, (post_bind.mp h).imp (fun d ρ1 h1 v G1 H1 x1 r1 => ?_) fun _ _ e => e.ew⟩
  obtain ⟨kvs0, e, h2⟩ := slotQ_post h1
  obtain ⟨a, vs0, e1, e2, _⟩ := x1.sr.ownQ e
  refine ⟨.ref a, e1, G1, ρ1, x1.sr, (post_bind.mp h2).imp (fun kd ρ2 h3 u G2 H2 x2 r2 => ?_) fun _ _ e => (e.ew).tr x1⟩
  obtain ⟨kvs, f, h4⟩ := slotQ_post h3
  split at h4
  · rename_i k
    obtain ⟨hz, h5⟩ := ite_post h4
    obtain ⟨a', vs, g1, g2, g3⟩ := x2.sr.ownQ f
    have g1' := g1
    rw [e1] at g1'; cases g1'
    cases r2
    refine ⟨a, _, rfl, DPut.k (k := .inl k) g2 (by rw [g3.length, sizeLine_eq]; exact hz), ?_⟩
    exact h5 σ G2 _ ((x1.tr x2).tr (x2.sr.updO f g1 (.dK (kq_put (r1.mono x2.fr.ext) g3)))) fun _ _ => rfl
  · exact h4.elim
end
/-! ### sep.join(xs) -/
def strsOf : List D → Option (List Str)
  | [] => some []
  | .str x :: r => (strsOf r).map (x :: ·)
  | _ => none
theorem strsOf_vs {K : PySem.W.Frag} {G : Hp} : ∀ {ds : List D} {vs : List V} {ys : List Str}, RpAll K G vs ds → strsOf ds = some ys → vs = ys.map V.str
  | [], _, _, h, e => by cases h; cases e; rfl
  | d :: ds, _, ys, h, e => by
    cases d <;> try (cases e)
    cases h with
    | cons h1 h2 =>
      cases h1
      unfold strsOf at e
      cases q : strsOf ds with
      | none => rw [q] at e; cases e
      | some r => rw [q] at e; cases e; rw [strsOf_vs h2 q]; rfl
def gJoin (a : Str) : D → Option D
  | .list xs => match strsOf xs with
    | some ys => if (ys.map (·.length)).sum + ys.length * a.length ≤ 16777216 then some (.str (Txt.join a ys)) else none
    | none => none
  | _ => none
def eJoin (mo me : M D) : M D := mo.bind fun o => match o with
  | .str a => me.bind fun d => M.opt (gJoin a d)
  | _ => M.fail
section
variable {X : Cx} {Γ : Gm} {W : WX} {pos : Pos}
theorem de_join {o e : Expr} {mo me : M D} {apos : Pos} (ho : PE X o (tD Γ W mo)) (he : PE X e (tD Γ W me)) (hK : X.K = Γ.K := by rfl) (hs : starEach [e] X.env = [(false, eval e X.env)] := by rfl) (hbase : attributeBase o "join" X.env (eval o X.env) = eval o X.env := by rfl) (hline : (apos.endLine == pos.line) = true := by rfl) :
    PE X (.Call (.Attribute o "join" apos) [e] [] pos) (tD Γ W (eJoin mo me)) := by
  refine PE.imp (pe_join ho he hs hbase hline) fun σ H Q ⟨G, ρ, s, h⟩ => ⟨G, ρ, s, (post_bind.mp h).imp (fun d ρ1 h1 v G1 H1 x1 r1 => ?_) fun c ρ' e => e⟩
  split at h1
  · rename_i a
    cases r1
    refine ⟨⟨a, rfl⟩, G1, ρ1, x1.sr, (post_bind.mp h1).imp (fun y ρ2 h2 u G2 H2 x2 r2 => ?_) fun c ρ' e => e.tr x1⟩
    obtain ⟨z, hz, q⟩ := opt_post h2
    unfold gJoin at hz
    split at hz
    · rename_i xs
      split at hz
      · rename_i ys hy
        split at hz
        · rename_i small
          cases hz
          cases r2 with | lst g w =>
          have e := strsOf_vs w hy
          subst e
          rw [hK]
          exact ⟨a, _, ys, rfl, rfl, .inl (SqL.of (x2.sr.sub _ _ g)), small, q _ G2 H2 (x1.tr x2) (.str _)⟩
        · cases hz
      · cases hz
    · cases hz
  · exact h1.elim
end
end DL

/-! DHm: try .. except X: without a name; a, b = [..], [..]; dict(zip(ks, vs)) with tuples of ints as keys; str(x). -/
namespace DL
open PySem PySem.Spec L2
open PyProof.Rows hiding St
/-! ### str(x) -/
def isPlainS : D → Bool
  | .int _ | .tuple _ | .list _ => true
  | _ => false
def gStr : List D → Option D
  | [d] => if isPlainS d = true then reprD d else none
  | _ => none
def rStrD (K : PySem.W.Frag) : List V → Hp → VK → Prop := fun xs H Q => ∃ v d, xs = [v] ∧ isPlainS d = true ∧ Dp K H v d ∧ d.showable = true ∧ d.depth ≤ 64 ∧ d.shown.length ≤ sizeLine ∧ d.hasDict = false ∧ Q (.str d.shown) H
theorem call_strD {X : Cx} (hgd : X.A.guards = some []) (hu : X.A.units + 67 < cLine) : CallR X (.type "str") (rStrD X.K) := by
  intro pins s σ H xs us Q I r h
  obtain ⟨v, d, rfl, pl, dp, hs, hd, hl, hn, q⟩ := h
  obtain ⟨u, rfl, ru⟩ := vals1 r
  obtain ⟨as, rd⟩ := Dp.reads I d v u dp ru
  have keep : ∀ h' tk, (∀ b o, s.heap.get? b = some o → h'.get? b = some o) → Inv X pins σ H { s with heap := h', toks := tk } := fun h' tk k => I.kept k
  cases rd with
  | none => cases pl
  | bool b => cases pl
  | int i t => simp only [PyData.shown] at q; exact PySem.P.str_of_int (by simpa [PyData.showable] using hs) ⟨.str _, H, I.tok _, ⟨_, rfl⟩, q⟩
  | str x t => cases pl
  | list h1 h2 h3 h4 => exact str_of_reads (.list h1 h2 h3 h4) hs (fun z => by rw [hn] at z; cases z) hgd (by omega) (fun _ _ e => e) (fun h' u tk k => ⟨.str _, H, keep h' tk k, ⟨_, rfl⟩, q⟩) hl
  | tuple h1 h2 h3 h4 => exact str_of_reads (.tuple h1 h2 h3 h4) hs (fun z => by rw [hn] at z; cases z) hgd (by omega) (fun _ _ e => e) (fun h' u tk k => ⟨.str _, H, keep h' tk k, ⟨_, rfl⟩, q⟩) hl
  | dict _ _ _ _ _ => cases pl
theorem strD_n {K : PySem.W.Frag} : RNP K (rStrD K) gStr := by
  intro G H xs ds z Q s r hz q
  unfold gStr at hz
  split at hz
  · rename_i d
    split at hz
    · rename_i pl
      unfold reprD at hz
      split at hz
      · rename_i hc
        cases hz
        simp only [Bool.and_eq_true, decide_eq_true_eq] at hc
        obtain ⟨⟨⟨c1, c2⟩, c3⟩, c4⟩ := hc
        cases r with | cons a b =>
        cases b
        exact ⟨_, d, rfl, pl, (a.mono s).dp c4, c1, c2, size_line c3, PyData.hasDict_of_canLay d c4, scal_ret s (fun _ => .str _) q⟩
      · cases hz
    · cases hz
  · cases hz
/-! ### a, b = [..], [..] -/
def sParOO (i j : Nat) (mo mp : M OC) : M Flw := mo.bind fun c => mp.bind fun d ρ => if i < ρ.length ∧ j < ρ.length then .ok .next ((ρ.set i (.own c)).set j (.own d)) else .bad
section
variable {X : Cx} {Γ : Gm} {W : WX} {pos : Pos}
theorem ds_parOO {P : List Nat} {i j : Nat} {x y : Str} {a b : Expr} {mo mp : M OC} {px py pt : Pos} {kt k2 pt2} (hc : X.calm = true) (hN : X.N.Nodup) (hi : X.N[i]? = some x) (hj : X.N[j]? = some y) (hij : i ≠ j)
    (hx : X.env.scope.names.lookup x = some .local) (hy : X.env.scope.names.lookup y = some .local) (ha : PE X a (tO Γ W mo)) (hb : PE X b (tO Γ W mp)) (hp : i ∉ P) (hp2 : j ∉ P)
    (hw : swappedStores [.Tuple [.Name x px, .Name y py] kt pt] (.Tuple [a, b] k2 pt2) X.env = pure (some [x, y]))
    (hs : swapsWithSole [.Tuple [.Name x px, .Name y py] kt pt] (.Tuple [a, b] k2 pt2) pos.line X.env = pure false := by rfl)
    (hs1 : starEach [a, b] X.env = (false, eval a X.env) :: starEach [b] X.env := by rfl) (hs2 : starEach [b] X.env = (false, eval b X.env) :: starEach [] X.env := by rfl) :
    PS X (.Assign [.Tuple [.Name x px, .Name y py] kt pt] (.Tuple [a, b] k2 pt2) pos) (tS Γ W P (sParOO i j mo mp)) := by
  refine PS.imp (ps_par hc hN hi hj hij hx hy (pa2 ha hb hs1 hs2) hw hs) fun D σ H ⟨G, ρ, s, h⟩ => ?_
  refine ⟨G, ρ, s, (post_bind.mp h).imp (fun c ρ1 h1 v G1 H1 x1 r1 => ?_) fun c ρ' e => e.ew⟩
  refine ⟨G1, ρ1, x1.sr, (post_bind.mp h1).imp (fun d ρ2 h2 u G2 H2 x2 r2 => ?_) fun c ρ' e => EW.tr x1 e.ew⟩
  by_cases hl : i < ρ2.length ∧ j < ρ2.length
  · simp only [if_pos hl] at h2
    obtain ⟨a2, o2, rfl, g, hu, oc, n, f⟩ := r1
    obtain ⟨b2, p2, rfl, gb, hub, ob, nb, fb⟩ := r2
    have x12 := x1.tr x2
    have g2 : G2 a2 = none := x2.fr.nog a2 o2 hu g n
    have h2' : H2 a2 = some o2 := x2.fr.keep a2 o2 hu n
    have n2 : ¬ Ow σ ρ2 a2 := ow_set x2 hu n
    have y1 := setO_stp x12 (i := i) hl.1 g2 h2' (oc.mono x2.fr.ext) n2 f
    have ne : b2 ≠ a2 := fun z => by
      rcases fb with q | q
      · exact n (z ▸ q)
      · rw [z, hu] at q; cases q
    have nb2 : ¬ Ow (σ.set i (some (.ref a2))) (ρ2.set i (.own c)) b2 := fun z => by
      rcases (x12.sr.setO hl.1 g2 h2' (oc.mono x2.fr.ext) n2).2 b2 z with q | q
      · exact ne q
      · exact nb q
    have y2 := setO_stp y1 (i := j) (by rw [List.length_set]; exact hl.2) gb hub ob nb2 (x1.was fb)
    exact ⟨_, _, rfl, h2 _ G2 H2 y2 fun k hk => (kept_set (P := P) hp2 k hk).trans (kept_set (P := P) hp k hk)⟩
  · simp only [if_neg hl] at h2
    exact h2.elim
end
/-! ### try .. except X: .. -/
def sTryN (mb : M Flw) (ct : Exc → Option Bool) (ms : M Flw) : M Flw := fun ρ => match mb ρ with
  | .err e ρ1 => match ct e with
    | some true => match ms ρ1 with
      | .ok f ρ2 => .ok f ρ2
      | _ => .bad
    | some false => .err e ρ1
    | none => .bad
  | .ok f ρ1 => .ok f ρ1
  | .bad => .bad
section
variable {X : Cx} {Γ : Gm} {W : WX} {P : List Nat} {x : Str} {c : Value} {body suite : List Stmt} {b0 : Stmt} {np pos pos' : Pos} {mb ms : M Flw} {ct : Exc → Option Bool}
theorem ds_tryN (stk : X.stack = X.env :: X.outer) (frm : X.env.frame = some X.env.locals) (nm : Names X x c) (tk : L2N.Takes X W)
    (hb : ∀ (W' : WX) (pn : List (Addr × Obj)) (xe : Value → Shared → Prop), L2N.Takes (X.tr pn xe) W' → PassesOwn (model X.prog X.w) X.A X.env xe → PSs (X.tr pn xe) body (tS Γ W' P mb))
    (hs : ∀ (a : Addr) (oe : Obj) (pn : List (Addr × Obj)), PSs (X.suite a ((a, oe) :: pn)) (b0 :: suite) (tS Γ WF P ms))
    (hct : ∀ e cls d k, ExcN Γ e cls d → ct e = some k → PySem.W.exmOne X.K cls c = some k) :
    PS X (.Try body [.ExceptHandler (some (.Name x np)) none (b0 :: suite) pos'] [] [] pos) (tS Γ W P (sTryN mb ct ms)) := by
  refine PS.imp (L2N.ps_try_many (tb := fun W' => tS Γ W' P mb) (l := [(c, fun a cls d D σ H => tS Γ WF P ms D σ H)]) stk frm tk hb
    (.cons nm (fun a oe cls d pn hz hf => hs a oe pn) .nil)) fun D σ H ⟨G, ρ, s, h⟩ => ⟨G, ρ, s, ?_⟩
  unfold sTryN at h
  cases hm : mb ρ with
  | bad => rw [hm] at h; exact h.elim
  | ok f ρ1 => rw [hm] at h; exact h
  | err e ρ1 =>
    simp only [hm] at h
    intro cls dx σ' G' H' x1 k1 ex
    cases hc : ct e with
    | none => simp only [hc] at h; exact h.elim
    | some k =>
      refine ⟨k, hct e cls dx k ex.n hc, fun z a na => ?_, fun z => ?_⟩
      · subst z
        simp only [hc] at h
        cases he : ms ρ1 with
        | bad => rw [he] at h; exact h.elim
        | err _ _ => rw [he] at h; exact h.elim
        | ok f ρ2 =>
          rw [he] at h
          refine ⟨G', ρ1, x1.sr, ?_⟩
          show Out.Post (ms ρ1) _ _
          rw [he]
          intro σ2 G2 H2 x2 k2
          exact FlwOk.tr x1 (h σ2 G2 H2 (x1.tr x2) fun j hj => (k2 j hj).trans (k1 j hj))
      · subst z
        simp only [hc] at h
        exact h cls dx σ' G' H' x1 k1 ex
end
/-! ### dict(zip(ks, vs)) -/
def mergeT (kvs ps : List (List Key × V)) : List (List Key × V) := ps.foldl (fun acc p => putK acc p.1 p.2) kvs
theorem mergeT_len : ∀ (ps kvs : List (List Key × V)), (mergeT kvs ps).length ≤ kvs.length + ps.length
  | [], kvs => Nat.le_refl _
  | p :: ps, kvs => by
    have h1 := mergeT_len ps (putK kvs p.1 p.2)
    have h2 := length_putK kvs p.1 p.2
    show (mergeT (putK kvs p.1 p.2) ps).length ≤ _
    simp only [List.length_cons]
    omega
theorem kt_merge {H : Hp} : ∀ {ps : List (List Key × V)} {xs : List (List Key × Addr × Value)} {kvs : List (List Key × V)} {ys : List (List Key × Addr × Value)}, KT H kvs ys → KT H ps xs → KT H (mergeT kvs ps) (storedAllH ys xs)
  | [], _, kvs, ys, r, h => by cases h; exact r
  | p :: ps, _, kvs, ys, r, h => by
    cases h with
    | @cons _ q _ qs h1 h2 =>
      obtain ⟨e1, e2, e3⟩ := h1
      show KT H (mergeT (putK kvs p.1 p.2) ps) (storedAllH (storedH ys q.1 q.2.1 q.2.2) qs)
      rw [← e1]
      exact kt_merge (r.put p.1 e2 e3) h2
theorem kt_of {H : Hp} : ∀ {ks : List Addr} {ps : List (List Key × V)} {us : List Value}, Paired (fun c (p : List Key × V) => H c = some (.tup (p.1.map kV))) ks ps → Vals (ps.map (·.2)) us →
    ∃ xs : List (List Key × Addr × Value), KT H ps xs ∧ xs.length = ps.length ∧ us.length = ps.length ∧ ks.length = ps.length ∧ (∀ (i : Nat) (k v : Value), (ks.map Value.ref)[i]? = some k → us[i]? = some v → ∃ kk b, xs[i]? = some (kk, b, v) ∧ k = .ref b) ∧ ∀ x ∈ xs, H x.2.1 = some (.tup (x.1.map kV))
  | [], _, us, h, r => by
    cases h; cases r
    exact ⟨[], .nil, rfl, rfl, rfl, fun i k v e => by simp at e, fun _ z => nomatch z⟩
  | c :: ks, _, us, h, r => by
    cases h with
    | @cons _ p _ ps h1 h2 =>
      rw [List.map_cons] at r
      cases r with
      | @cons _ u _ us r1 r2 =>
        obtain ⟨xs, kt, l1, l2, l3, at_, tr⟩ := kt_of h2 r2
        refine ⟨(p.1, c, u) :: xs, .cons ⟨rfl, h1, r1⟩ kt, by simp [l1], by simp [l2], by simp [l3], fun i k v e1 e2 => ?_, fun x hx => ?_⟩
        · cases i with
          | zero =>
            simp at e1 e2
            subst e1 e2
            exact ⟨p.1, c, rfl, rfl⟩
          | succ i => exact at_ i k v (by simpa using e1) (by simpa using e2)
        · rcases List.mem_cons.mp hx with z | z
          · subst z; exact h1
          · exact tr x z
def tDictZ (K : PySem.W.Frag) (ta : TA) : TE := fun σ H Q => ta σ H fun vs H1 => ∃ (a b : Addr) (ks : List Addr) (ps : List (List Key × V)), vs = [.ref a, .ref b] ∧ SqL K H1 a (ks.map V.ref) ∧ SqL K H1 b (ps.map (·.2)) ∧
  Paired (fun c (p : List Key × V) => H1 c = some (.tup (p.1.map kV))) ks ps ∧ ∀ p : Addr, H1 p = none → Q (.ref p) (upd H1 p (.dT (mergeT [] ps)))
section
variable {X : Cx} {Γ : Gm} {W : WX} {pos : Pos}
theorem pe_dictZ {e e2 : Expr} {ta : TA} {p p2 q : Pos} (hu : X.A.units + 67 < cLine) (gd : Gl X "dict") (md : X.mg "dict" = none) (gz : Gl X "zip") (mz : X.mg "zip" = none) (ha : PA X [e, e2] ta) (calm : X.calm = true := by rfl)
    (hs : starEach [e, e2] X.env = (false, eval e X.env) :: starEach [e2] X.env := by rfl) (hpl : (backTo q (starEach [e2] X.env)).any (·.1) = false := by rfl) : PE X (.Call (.Name "dict" p) [.Call (.Name "zip" p2) [e, e2] [] q] [] pos) (tDictZ X.K ta) := by
  refine ⟨fun pins s σ H Q J hq => ?_⟩
  refine PyProof.Rows.Call_ (ld_blt J gd md (show bootBuiltins "dict" = some (.type "dict") by decide +kernel) (PyProof.Rows.callWith_type1 (PyProof.Rows.args_cons ?_ rfl) rfl rfl))
  refine PyProof.Rows.Call_ (ld_blt J gz mz PyProof.Rows.boot_zip (PyProof.Rows.callWith_type1 (thn (ha.run q pins s σ H _ J hq) fun us s1 ⟨vs, H1, J1, r1, q1⟩ => ?_) hs hpl))
  obtain ⟨a, b, ks, ps, ex, hqx, hqy, hks, w⟩ := q1
  subst ex
  cases r1 with
  | cons r rr =>
    cases rr with
    | cons r' rr =>
      cases rr
      cases r
      cases r'
      obtain ⟨its, rv, p1, hz1⟩ := J1.list hqx
      obtain ⟨its2, rv2, p2', hz2⟩ := J1.list hqy
      have ei := refs_at rv
      subst ei
      obtain ⟨xs, kt, l1, l2, l3, at_, tr⟩ := kt_of hks rv2
      have la : a < s1.heap.objs.size := p1.lt
      have lb : b < s1.heap.objs.size := p2'.lt
      refine call_zip_2 p1.isList p2'.isList fun h' hz hTI hTO h1 h2 hsz hk => ?_
      refine PyProof.Rows.args_nil ?_
      have wr : ∀ c o, c ∉ [s1.heap.objs.size + 4, s1.heap.objs.size + 3, s1.heap.objs.size, s1.heap.objs.size + 1] → h'.get? c = some o → True := fun _ _ _ _ => trivial
      have out : ∀ c o, s1.heap.get? c = some o → c ∉ [s1.heap.objs.size + 4, s1.heap.objs.size + 3, s1.heap.objs.size, s1.heap.objs.size + 1] := fun c o e hm => by
        have hlt := Heap.lt_size e
        simp only [List.mem_cons, List.not_mem_nil, or_false] at hm
        rcases hm with z | z | z | z <;> rw [z] at hlt <;> first | exact Nat.lt_irrefl _ hlt | exact Nat.not_lt_of_le (Nat.le_add_right _ _) hlt
      have hle : s1.heap.objs.size ≤ h'.objs.size := by rw [hsz]; exact Nat.le_add_right _ _
      refine call_dict_pairsH (knd := tupleKind (mixKind X.prog X.w)) (ps := xs) (PairArg.zip (s1.heap.objs.size + 4) (s1.heap.objs.size + 2) (s1.heap.objs.size + 3) s1.heap.objs.size (s1.heap.objs.size + 1) a b (PySem.W.ktu_apart s1.heap.objs.size a b la lb) (ks.map Value.ref).toArray its2.toArray)
        (J1.ok.hd calm) (by show X.A.units + 1 + 1 < cLine; omega) ⟨hz, hTI, ⟨_, _, hTO⟩, h1, h2, p1.isList.at fun o e => hk _ o e, p2'.isList.at fun o e => hk _ o e⟩
        ⟨by simp only [List.size_toArray, List.length_map]; omega, fun i k v ⟨e1, e2⟩ => ?_⟩ (fun h'' hk2 x hx => ?_) (by simp only [List.size_toArray, List.length_map]; rw [List.length_map] at hz1; omega) fun h'' tk dd hk2 => ?_
      · exact at_ i k v (by simpa using e1) (by simpa using e2)
      · obtain ⟨o, its', n, g1, g2, g3, g4⟩ := key_of J1.hok (tr x hx)
        have hlt := Heap.lt_size g1
        exact ⟨o, its', n, hk2 _ _ (Nat.ne_of_lt (Nat.lt_of_lt_of_le hlt hle)) (out _ _ g1) (hk _ _ g1), g2, g3, g4⟩
      · have hn : H1 h'.objs.size = none := J1.hok.fresh hle
        have hm : (h'.objs.size == sysModules) = false := beq_eq_false_iff_ne.mpr (Nat.ne_of_gt (Nat.lt_of_lt_of_le J1.big hle))
        have hlen : (mergeT [] ps).length ≤ sizeLine := by
          have := mergeT_len ps []
          rw [List.length_map] at hz1
          simp only [List.length_nil] at this
          omega
        obtain ⟨o, es, ep, f1, f2, f3, f4, _, f5⟩ := dd
        have new : ObjOk X.prog X.w (upd H1 h'.objs.size (.dT (mergeT [] ps))) h'' h'.objs.size (.dT (mergeT [] ps)) :=
          ⟨hlen, hm, _, (kt_merge .nil kt).keeps fun c ys ec => by rw [upd_ne (ne_of_none ec hn)]; exact ec, o, es, ep, f1, f2, f3, f4, f5⟩
        exact ⟨.ref h'.objs.size, _, J1.laid (t' := tk) (fun c o e => hk2 c o (out c o e) (hk c o e)) hle new, rfl, w _ hn⟩
def zipT : List D → List D → Option (List (List Key × D))
  | [], [] => some []
  | k :: ks, v :: vs => match keyT k, zipT ks vs with
    | some k, some r => some ((k, v) :: r)
    | _, _ => none
  | _, _ => none
def mergeD (kvs ps : List (List Key × D)) : List (List Key × D) := ps.foldl (fun acc p => putD acc p.1 p.2) kvs
def zipQ : List D → Option (List (List Key × D))
  | [.list ks, .list vs] => zipT ks vs
  | _ => none
def oDictZ (ma : M (List D)) : M OC := ma.bind fun ds => (M.opt (zipQ ds)).bind fun ps => M.ret (.dT (mergeD [] ps))
theorem zipT_vs {K : PySem.W.Frag} {G : Hp} : ∀ {ks vs : List D} {ku vu : List V} {ps : List (List Key × D)}, RpAll K G ku ks → RpAll K G vu vs → zipT ks vs = some ps →
    ∃ (cs : List Addr) (pv : List (List Key × V)), ku = cs.map V.ref ∧ vu = pv.map (·.2) ∧ Paired (fun c (p : List Key × V) => G c = some (.tup (p.1.map kV))) cs pv ∧ KvOk K G pv ps
  | [], [], _, _, ps, h1, h2, e => by
    cases h1; cases h2; cases e
    exact ⟨[], [], rfl, rfl, .nil, .nil⟩
  | [], _ :: _, _, _, ps, h1, h2, e => by cases e
  | _ :: _, [], _, _, ps, h1, h2, e => by cases e
  | k :: ks, v :: vs, _, _, ps, h1, h2, e => by
    unfold zipT at e
    cases q1 : keyT k with
    | none => rw [q1] at e; cases e
    | some kk =>
      cases q2 : zipT ks vs with
      | none => rw [q1, q2] at e; cases e
      | some r =>
        rw [q1, q2] at e
        cases e
        cases h1 with
        | cons a1 a2 =>
          cases h2 with
          | cons b1 b2 =>
            obtain ⟨cs, pv, e1, e2, e3, e4⟩ := zipT_vs a2 b2 q2
            obtain ⟨c, rfl, gc⟩ := keyT_ref a1 q1
            rename_i w _
            exact ⟨c :: cs, (kk, w) :: pv, by rw [e1]; rfl, by rw [e2]; rfl, .cons gc e3, .cons ⟨rfl, b1⟩ e4⟩
theorem kv_merge {K : PySem.W.Frag} {G : Hp} : ∀ {pv : List (List Key × V)} {ps : List (List Key × D)} {kvs : List (List Key × V)} {ds : List (List Key × D)}, KvOk K G kvs ds → KvOk K G pv ps → KvOk K G (mergeT kvs pv) (mergeD ds ps)
  | [], _, kvs, ds, r, h => by cases h; exact r
  | p :: pv, _, kvs, ds, r, h => by
    cases h with
    | @cons _ q _ qs h1 h2 =>
      obtain ⟨e1, e2⟩ := h1
      show KvOk K G (mergeT (putK kvs p.1 p.2) pv) (mergeD (putD ds q.1 q.2) qs)
      rw [← e1]
      exact kv_merge (kv_put e2 r) h2
theorem do_dictZ {e e2 : Expr} {ma : M (List D)} {p p2 q : Pos} (hu : X.A.units + 67 < cLine) (gd : Gl X "dict") (md : X.mg "dict" = none) (gz : Gl X "zip") (mz : X.mg "zip" = none) (ha : PA X [e, e2] (tDs Γ W ma)) (hK : X.K = Γ.K := by rfl) (calm : X.calm = true := by rfl)
    (hs : starEach [e, e2] X.env = (false, eval e X.env) :: starEach [e2] X.env := by rfl) (hpl : (backTo q (starEach [e2] X.env)).any (·.1) = false := by rfl) : PE X (.Call (.Name "dict" p) [.Call (.Name "zip" p2) [e, e2] [] q] [] pos) (tO Γ W (oDictZ ma)) := by
  refine PE.imp (pe_dictZ hu gd md gz mz ha calm hs hpl) fun σ H Q ⟨G, ρ, s, h⟩ => ⟨G, ρ, s, (post_bind.mp h).imp (fun ds ρ1 h1 vs G1 H1 x1 r1 => ?_) fun c ρ' e => e⟩
  obtain ⟨ps, hps, h2⟩ := opt_post (post_bind.mp h1)
  unfold zipQ at hps
  split at hps
  · rename_i ks us
    cases r1 with | cons a1 a2 =>
    cases a2 with | cons b1 b2 =>
    cases b2
    cases a1 with | lst ga wa =>
    cases b1 with | lst gb wb =>
    obtain ⟨cs, pv, e1, e2, e3, e4⟩ := zipT_vs wa wb hps
    subst e1 e2
    rw [hK]
    refine ⟨_, _, cs, pv, rfl, SqL.of (x1.sr.sub _ _ ga), SqL.of (x1.sr.sub _ _ gb), Paired.mapP e3 fun _ _ z => x1.sr.sub _ _ z, fun p np => ?_⟩
    have y := x1.sr.ext (Ext0.newH (o := .dT (mergeT [] pv)) x1.sr.sub np)
    refine h2 _ G1 _ (x1.tr y) ⟨p, _, rfl, x1.sr.sub.none np, upd_same, .dT (kv_merge .nil e4), fun ⟨i, c, z1, z2⟩ => ?_, x1.was (.inr np)⟩
    obtain ⟨a, u, f1, f2, f3, f4⟩ := x1.sr.own z1
    rw [z2] at f1; cases f1
    rw [np] at f3; cases f3
  · cases hps
end
end DL

/-! DHn: n = [f(..), g(..)], two fresh lists; if c: return False; n[0].append(None). -/
namespace DL
open PySem PySem.Spec L2
/-- own slots hold ints alone -/
def intOwn (ρ : Rho) : Prop := ∀ (j : Nat) (c : OC), ρ[j]? = some (.own c) → ∃ ns : List Int, c = .lst (ns.map .int)
/-- the two lists, and behind them the first one longer by None -/
def dupD (xs ys : List D) : D := .list [.list xs, .list ys]
open Classical in
noncomputable def sDup (i : Nat) (m1 m2 : M Slot) (mc : M Bool) : M Flw := fun ρ => match m1 ρ with
  | .ok (.own (.lst xs)) ρ1 => match m2 ρ1 with
    | .ok (.own (.lst ys)) ρ2 => if i < ρ2.length ∧ xs.length < 16777216 ∧ intOwn ρ2 ∧ mc (ρ2.set i (.fz (dupD xs ys))) = .ok false (ρ2.set i (.fz (dupD xs ys))) then .ok .next (ρ2.set i (.fz (dupD (xs ++ [.none]) ys))) else .bad
    | _ => .bad
  | _ => .bad
theorem sDup_post {i : Nat} {m1 m2 : M Slot} {mc : M Bool} {ρ : Rho} {Q : Flw → Rho → Prop} {E : Exc → Rho → Prop} (h : (sDup i m1 m2 mc ρ).Post Q E) :
    ∃ xs ys ρ1 ρ2, m1 ρ = .ok (.own (.lst xs)) ρ1 ∧ m2 ρ1 = .ok (.own (.lst ys)) ρ2 ∧ (i < ρ2.length ∧ xs.length < 16777216 ∧ intOwn ρ2 ∧ mc (ρ2.set i (.fz (dupD xs ys))) = .ok false (ρ2.set i (.fz (dupD xs ys)))) ∧ Q .next (ρ2.set i (.fz (dupD (xs ++ [.none]) ys))) := by
  unfold sDup at h
  split at h
  · rename_i xs ρ1 e1
    split at h
    · rename_i ys ρ2 e2
      split at h
      · rename_i hb; exact ⟨xs, ys, ρ1, ρ2, e1, e2, hb, h⟩
      · exact h.elim
    · exact h.elim
  · exact h.elim
theorem sDup_ok {i : Nat} {m1 m2 : M Slot} {mc : M Bool} {ρ ρ1 ρ2 : Rho} {xs ys : List D} (h1 : m1 ρ = .ok (.own (.lst xs)) ρ1) (h2 : m2 ρ1 = .ok (.own (.lst ys)) ρ2) (hi : i < ρ2.length) (hl : xs.length < 16777216) (no : intOwn ρ2)
    (hc : mc (ρ2.set i (.fz (dupD xs ys))) = .ok false (ρ2.set i (.fz (dupD xs ys)))) : sDup i m1 m2 mc ρ = .ok .next (ρ2.set i (.fz (dupD (xs ++ [.none]) ys))) := by
  unfold sDup
  rw [h1]
  simp only [h2]
  exact if_pos ⟨hi, hl, no, hc⟩
section
variable {X : Cx} {Γ : Gm} {W : WX} {P : List Nat} {rest : List Stmt} {n : M Flw} {i : Nat} {x : Str} {px px' pl pos pos2 pos3 pos4 ipos apos cpos jp1 : Pos} {k j1 : Nat} {e1 e2 c : Expr} {m1 m2 : M Slot} {mc : M Bool} {rs : List Stmt} {mr : M Flw}
theorem ow_t {σ : St} {ρ : Rho} {d : D} {v : Option V} {j : Nat} {a : Addr} (h : OwnAt (σ.set i v) (ρ.set i (.fz d)) j a) : i ≠ j ∧ OwnAt σ ρ j a := by
  obtain ⟨c, e1, e2⟩ := h
  by_cases q : i = j
  · subst q
    rw [List.getElem?_set] at e1
    split at e1
    · split at e1 <;> cases e1
    · contradiction
  · rw [List.getElem?_set_ne q] at e1 e2
    exact ⟨q, c, e1, e2⟩
theorem rpAll_int {K : PySem.W.Frag} {G : Hp} : ∀ (ns : List Int) {us : List V}, RpAll K G us (ns.map PyData.int) → us = ns.map V.int
  | [], _, h => by cases h; rfl
  | n :: ns, _, h => by
    cases h with
    | cons h1 h2 => cases h1; rw [rpAll_int ns h2]; rfl
theorem ds_dup (hN : X.N.Nodup) (hi : X.N[i]? = some x) (hx : L2.Loc X.env.scope x) (h1 : PE X e1 (tR Γ W m1)) (h2 : PE X e2 (tR Γ W m2)) (hc : PT X c (tT Γ W mc)) (hv : PE X (.Name x px) (tVar i)) (hrs : PSs X rs (tS Γ W P mr))
    (hr : PSs X rest (tS Γ W P n)) (hK : X.K = Γ.K := by rfl) (hP : i ∉ P := by decide)
    (hs1 : starEach [e1, e2] X.env = (false, eval e1 X.env) :: starEach [e2] X.env := by rfl) (hs2 : starEach [e2] X.env = (false, eval e2 X.env) :: starEach [] X.env := by rfl)
    (hs : swapsWith (.List [e1, e2] pl) (some (.Name x px')) pos.line X.env = pure false := by rfl)
    (hf : X.fn x = true ∨ X.env.scope.names.lookup x = some .local := by first | exact .inl rfl | exact .inr rfl | assumption)
    (hbase : attributeBase (.Subscript (.Name x px) (.Constant (.int 0) j1 jp1) ipos) "append" X.env (eval (.Subscript (.Name x px) (.Constant (.int 0) j1 jp1) ipos) X.env) = eval (.Subscript (.Name x px) (.Constant (.int 0) j1 jp1) ipos) X.env := by rfl)
    (hfew : ((backTo cpos (starEach [.Constant .none k pos2] X.env)).all (fun x => !x.1) && (backToKw cpos (keywordEach [] X.env)).all (fun x => x.1.isSome) && decide (([.Constant .none k pos2] : List Expr).length + ([] : List Keyword).length + (if ([] : List Keyword).isEmpty then 0 else 1) < 30)) = true := by rfl)
    (hline : (apos.endLine == cpos.line) = true := by rfl) (hs3 : starEach [.Constant .none k pos2] X.env = (false, eval (.Constant .none k pos2) X.env) :: starEach [] X.env := by rfl)
    (hsw : swapsWith (.Call (.Attribute (.Subscript (.Name x px) (.Constant (.int 0) j1 jp1) ipos) "append" apos) [.Constant .none k pos2] [] cpos) none pos3.line X.env = pure false := by rfl) :
    PSs X (.Assign [.Name x px'] (.List [e1, e2] pl) pos :: .If c rs [] pos4 :: .Expr (.Call (.Attribute (.Subscript (.Name x px) (.Constant (.int 0) j1 jp1) ipos) "append" apos) [.Constant .none k pos2] [] cpos) pos3 :: rest) (tS Γ W P (sSeq (sDup i m1 m2 mc) n)) := by
  have d1 := ps_set hN hi hx (pe_lst (pos := pl) (pa_cons h1 (pa_cons h2 pa_nil hs2) hs1)) hs hf
  have d2 := ps_if (pos := pos4) hc hrs (pss_nil (X := X))
  have d3 := ps_expr (pe_bm PySem.F.plainAttrs_list PySem.F.slot_list_append PySem.F.type_list_append mt_append (pe_ix ix_list hv pe_int (fun _ _ => rfl)) (pa_cons (pe_non (j := k) (pos := pos2)) pa_nil hs3) hbase hfew hline hs3 rfl) hsw
  refine PSs.imp (pss_cons d1 (pss_cons d2 (pss_cons d3 hr))) fun D σ H ⟨G, ρ, s, h⟩ => ?_
  obtain ⟨xs, ys, ρ1, ρ2, q1, q2, ⟨hil, hxl, no, hcc⟩, h⟩ := sDup_post (post_bind.mp h)
  refine ⟨G, ρ, s, ?_⟩
  rw [q1]
  intro v1 G1 H1 x1 r1
  obtain ⟨a1, u1, rfl, g1, hu1, oc1, no1, f1⟩ := r1
  cases oc1 with | @lst _ us1 e1l =>
  refine ⟨G1, ρ1, x1.sr, ?_⟩
  rw [q2]
  intro v2 G2 H2 x2 r2
  obtain ⟨a2, u2, rfl, g2, hu2, oc2, no2, f2⟩ := r2
  cases oc2 with | @lst _ us2 e2l =>
  have k1 : H2 a1 = some (.lst us1) := x2.fr.keep a1 _ hu1 no1
  have g1' : G2 a1 = none := x2.fr.nog a1 _ hu1 g1 no1
  have n12 : a2 ≠ a1 := fun e => by
    subst e
    rcases f2 with z | z
    · exact no1 z
    · rw [hu1] at z; cases z
  have no1' : ¬ Ow σ ρ2 a1 := fun z => by
    rcases x2.ow a1 z with w | w
    · exact no1 w
    · rw [hu1] at w; cases w
  refine ⟨by rw [sizeLine_eq]; simp, fun p np => ?_⟩
  -- all of it frozen for the test
  have x12 := x1.tr x2
  have y1 := x12.own_freeze g1' k1 no1' f1
  have g2' : (upd G2 a1 (HO.lst us1)) a2 = none := by rw [upd_ne n12]; exact g2
  have y2 := y1.own_freeze g2' hu2 no2 (x1.was f2)
  have y3 := y2.tr (y2.sr.ext (Ext0.new (o := .lst [.ref a1, .ref a2]) y2.sr.sub np))
  have p1 : p ≠ a1 := fun e => by subst e; rw [k1] at np; cases np
  have p2 : p ≠ a2 := fun e => by subst e; rw [hu2] at np; cases np
  have s1 : DL.Sub G2 (upd G2 a1 (.lst us1)) := Sub.upd g1'
  have s2 : DL.Sub (upd G2 a1 (.lst us1)) (upd (upd G2 a1 (.lst us1)) a2 (.lst us2)) := Sub.upd g2'
  have gp0 : (upd (upd G2 a1 (HO.lst us1)) a2 (HO.lst us2)) p = none := by rw [upd_ne p2, upd_ne p1]; exact x2.sr.sub.none np
  have s3 : DL.Sub (upd (upd G2 a1 (.lst us1)) a2 (.lst us2)) (upd (upd (upd G2 a1 (.lst us1)) a2 (.lst us2)) p (.lst [.ref a1, .ref a2])) := Sub.upd gp0
  have ga1 : (upd (upd (upd G2 a1 (HO.lst us1)) a2 (HO.lst us2)) p (HO.lst [.ref a1, .ref a2])) a1 = some (.lst us1) := by rw [upd_ne p1.symm, upd_ne n12.symm, upd_same]
  have ga2 : (upd (upd (upd G2 a1 (HO.lst us1)) a2 (HO.lst us2)) p (HO.lst [.ref a1, .ref a2])) a2 = some (.lst us2) := by rw [upd_ne p2.symm, upd_same]
  have gp : (upd (upd (upd G2 a1 (HO.lst us1)) a2 (HO.lst us2)) p (HO.lst [.ref a1, .ref a2])) p = some (.lst [.ref a1, .ref a2]) := upd_same
  have gno : ∀ b, b ≠ a1 → b ≠ a2 → b ≠ p → G2 b = none → (upd (upd (upd G2 a1 (HO.lst us1)) a2 (HO.lst us2)) p (HO.lst [.ref a1, .ref a2])) b = none := fun b z1 z2 z3 z => by rw [upd_ne z3, upd_ne z2, upd_ne z1]; exact z
  have sGf := (s1.tr s2).tr s3
  generalize upd (upd (upd G2 a1 (HO.lst us1)) a2 (HO.lst us2)) p (HO.lst [.ref a1, .ref a2]) = Gf at y3 ga1 ga2 gp gno sGf
  have e1m : RpAll Γ.K Gf us1 xs := (e1l.mono x2.fr.ext).mono sGf
  have e2m : RpAll Γ.K Gf us2 ys := e2l.mono sGf
  have y4 := y3.sr.setF hil (.lst gp (.cons (.lst ga1 e1m) (.cons (.lst ga2 e2m) .nil)))
  have y4 : Stp Γ.K G H σ ρ Gf (upd H2 p (HO.lst [V.ref a1, V.ref a2])) (σ.set i (some (V.ref p))) (ρ2.set i (.fz (dupD xs ys))) := y3.tr y4
  refine ⟨Gf, _, y4.sr, ?_⟩
  rw [hcc]
  intro G4 H4 x4
  simp only [Bool.false_eq_true, if_false]
  have s4 : DL.Sub G2 G4 := sGf.tr x4.fr.ext
  have ha1 := x4.sr.sub _ _ (x4.fr.ext _ _ ga1)
  have hp := x4.sr.sub _ _ (x4.fr.ext _ _ gp)
  have si : (σ.set i (some (V.ref p)))[i]? = some (some (.ref p)) := List.getElem?_set_self (by rw [s.len, ← s.len, x2.sr.len]; exact hil)
  refine ⟨.ref p, si, p, [.ref a1, .ref a2], 0, .ref a1, rfl, rfl, SqL.of hp, rfl, .inl ⟨rfl, us1, SqL.of ha1⟩, a1, us1, .non, rfl, rfl, ha1, lt_line (by rw [e1m.length]; exact hxl), ?_⟩
  -- behind the append
  let G5 : Hp := fun b => if b = a1 then some (.lst (us1 ++ [.non])) else G4 b
  have c1 : ∀ b, b ≠ a1 → G5 b = G4 b := fun b z => if_neg z
  have c2 : G5 a1 = some (.lst (us1 ++ [.non])) := if_pos rfl
  have s5 : DL.Sub G2 G5 := fun b o e => by
    have : b ≠ a1 := fun z => by subst z; rw [g1'] at e; cases e
    rw [c1 b this]; exact s4 b o e
  have rp5 : Rp Γ.K G5 (.ref p) (dupD (xs ++ [.none]) ys) := by
    refine .lst (xs := [.ref a1, .ref a2]) ?_ (.cons (.lst c2 ?_) (.cons (.lst (xs := us2) ?_ (e2l.mono s5)) .nil))
    · rw [c1 p p1]; exact x4.fr.ext _ _ gp
    · exact ((e1l.mono x2.fr.ext).mono s5).append (.cons .non .nil)
    · rw [c1 a2 n12]; exact x4.fr.ext _ _ ga2
  have oT : ∀ j a, OwnAt (σ.set i (some (V.ref p))) (ρ2.set i (.fz (dupD (xs ++ [.none]) ys))) j a → OwnAt (σ.set i (some (V.ref p))) (ρ2.set i (.fz (dupD xs ys))) j a := fun j a z => by
    obtain ⟨q, c, w1, w2⟩ := ow_t z
    exact ⟨c, by rw [List.getElem?_set_ne q]; exact w1, by rw [List.getElem?_set_ne q]; exact w2⟩
  have oN : ∀ a o, H a = some o → ¬ Ow σ ρ a → ¬ Ow (σ.set i (some (V.ref p))) (ρ2.set i (.fz (dupD xs ys))) a := fun a o e nl ⟨j, z⟩ => by
    rcases x12.ow a ⟨j, (ow_t z).2⟩ with w | w
    · exact nl w
    · rw [w] at e; cases e
  have sr5 : SR Γ.K G5 (upd H4 a1 (.lst (us1 ++ [.non]))) (σ.set i (some (V.ref p))) (ρ2.set i (.fz (dupD (xs ++ [.none]) ys))) := by
    refine ⟨fun b o e => ?_, by rw [List.length_set, List.length_set]; exact x2.sr.len, fun j t e => ?_, fun j k a y z => x4.sr.sep j k a (oT j a y) (oT k a z)⟩
    · by_cases z : b = a1
      · subst z; rw [c2] at e; rw [upd_same]; exact e
      · rw [c1 b z] at e; rw [upd_ne z]; exact x4.sr.sub b o e
    · by_cases q : i = j
      · subst q
        rw [List.getElem?_set_self hil] at e
        cases e
        exact ⟨_, si, rp5⟩
      · have e' := e
        rw [List.getElem?_set_ne q] at e
        have z := x2.sr.ok j t e
        have z4 := x4.sr.ok j t (by rw [List.getElem?_set_ne q]; exact e)
        rw [List.getElem?_set_ne q] at z4 ⊢
        cases t with
        | un => trivial
        | ex a => exact z
        | fz d => obtain ⟨v, w1, w2⟩ := z; exact ⟨v, w1, w2.mono s5⟩
        | own c =>
          obtain ⟨ns, rfl⟩ := no j c e
          obtain ⟨a, u, w1, w2, w3, w4⟩ := z4
          have za : a ≠ a1 := fun z => by
            subst z
            rw [x4.fr.ext _ _ ga1] at w2; cases w2
          cases w4 with | @lst _ vs w4 =>
          refine ⟨a, _, w1, by rw [c1 a za]; exact w2, by rw [upd_ne za]; exact w3, .lst ?_⟩
          rw [rpAll_int ns w4]
          exact rpAll_ints ns
  have st : Stp Γ.K G H σ ρ G5 (upd H4 a1 (.lst (us1 ++ [.non]))) (σ.set i (some (V.ref p))) (ρ2.set i (.fz (dupD (xs ++ [.none]) ys))) := by
    refine ⟨sr5, ⟨x12.fr.ext.tr s5, fun a o e nl => ?_, fun a o e g nl => ?_⟩, fun a ⟨j, z⟩ => x12.ow a ⟨j, (ow_t z).2⟩⟩
    · have e2 := x12.fr.keep a o e nl
      have z1 : a ≠ a1 := fun z => by
        subst z
        rcases f1 with w | w
        · exact nl w
        · rw [w] at e; cases e
      have z3 : a ≠ p := fun z => by subst z; rw [np] at e2; cases e2
      rw [upd_ne z1]
      exact x4.fr.keep a o (by rw [upd_ne z3]; exact e2) (oN a o e nl)
    · have e2 := x12.fr.keep a o e nl
      have w2 := x12.fr.nog a o e g nl
      have z1 : a ≠ a1 := fun z => by
        subst z
        rcases f1 with w | w
        · exact nl w
        · rw [w] at e; cases e
      have z2 : a ≠ a2 := fun z => by
        subst z
        rcases x1.was f2 with w | w
        · exact nl w
        · rw [w] at e; cases e
      have z3 : a ≠ p := fun z => by subst z; rw [np] at e2; cases e2
      rw [c1 a z1]
      exact x4.fr.nog a o (by rw [upd_ne z3]; exact e2) (gno a z1 z2 z3 w2) (oN a o e nl)
  exact ⟨G5, _, st.sr, Out.Post.imp h (fun f ρ6 q σ6 G6 H6 y6 k6 => (q σ6 G6 H6 (st.tr y6) fun j hj => (k6 j hj).trans (kept_set hP j hj)).tr st) fun c ρ' e => e.tr st (kept_set hP)⟩
end
end DL

/-! DHp: an own dict with nested tuples of ints as keys: {}, d[k] = True, sorted(d). -/
namespace DL
open PySem PySem.Spec L2
/-! ### keys -/
mutual
theorem hash_any (w w' : World) : ∀ (d : D) (k : NestedKey), nkD d = some k → NestedKey.hash w k = NestedKey.hash w' k
  | .int i, k, h => by cases h; rw [NestedKey.hash.eq_2, NestedKey.hash.eq_2]
  | .tuple xs, k, h => by
    unfold nkD at h
    cases q : nkAll xs with
    | none => rw [q] at h; cases h
    | some ks =>
      rw [q] at h
      cases h
      rw [NestedKey.hash.eq_4, NestedKey.hash.eq_4, hash_all w w' xs ks q]
  | .none, _, h => by cases h
  | .bool _, _, h => by cases h
  | .str _, _, h => by cases h
  | .list _, _, h => by cases h
  | .dict _, _, h => by cases h
theorem hash_all (w w' : World) : ∀ (ds : List D) (ks : List NestedKey), nkAll ds = some ks → NestedKey.hashes w ks = NestedKey.hashes w' ks
  | [], ks, h => by cases h; rw [NestedKey.hashes.eq_1, NestedKey.hashes.eq_1]
  | d :: ds, ks, h => by
    unfold nkAll at h
    cases q : nkD d with
    | none => rw [q] at h; cases h
    | some k =>
      cases q2 : nkAll ds with
      | none => rw [q, q2] at h; cases h
      | some r =>
        rw [q, q2] at h
        cases h
        rw [NestedKey.hashes.eq_2, NestedKey.hashes.eq_2, hash_any w w' d k q, hash_all w w' ds r q2]
end
mutual
theorem nk_reads {h : Heap} : ∀ (d : D) (k : NestedKey) (u : Value) (as : List Addr), nkD d = some k → Reads h u d as → NestedIs h k u ∧ as = []
  | .int i, k, u, as, e, r => by cases e; cases r; exact ⟨.int _ _, rfl⟩
  | .tuple xs, k, u, as, e, r => by
    unfold nkD at e
    cases q : nkAll xs with
    | none => rw [q] at e; cases e
    | some ks =>
      rw [q] at e
      cases e
      cases r with
      | tuple h1 h2 h3 h4 =>
        obtain ⟨a, b⟩ := nk_all xs ks _ _ q h4
        exact ⟨.tup h1 h2 h3 a, b⟩
  | .none, _, _, _, e, _ => by cases e
  | .bool _, _, _, _, e, _ => by cases e
  | .str _, _, _, _, e, _ => by cases e
  | .list _, _, _, _, e, _ => by cases e
  | .dict _, _, _, _, e, _ => by cases e
theorem nk_all {h : Heap} : ∀ (ds : List D) (ks : List NestedKey) (us : List Value) (as : List Addr), nkAll ds = some ks → ReadsAll h us ds as → NestedAll h ks us ∧ as = []
  | [], ks, us, as, e, r => by cases e; cases r; exact ⟨.nil, rfl⟩
  | d :: ds, ks, us, as, e, r => by
    unfold nkAll at e
    cases q : nkD d with
    | none => rw [q] at e; cases e
    | some k =>
      cases q2 : nkAll ds with
      | none => rw [q, q2] at e; cases e
      | some t =>
        rw [q, q2] at e
        cases e
        cases r with
        | cons r1 r2 =>
          obtain ⟨a1, b1⟩ := nk_reads d k _ _ q r1
          obtain ⟨a2, b2⟩ := nk_all ds t _ _ q2 r2
          exact ⟨.cons a1 a2, by rw [b1, b2]; rfl⟩
end
/-! ### the dict at its address -/
theorem ext_tie {P : Program} {w w0 : World} {H : Hp} {h : Heap} {a a' : Addr} {L : List (NestedKey × Addr × Value)} (o : ObjOk P w H h a (.ext (dictAt w0 a' L))) : a' = a := by
  unfold ObjOk at o
  obtain ⟨p, _, st⟩ := o
  refine Classical.byContradiction fun ne => ?_
  obtain ⟨ob, es, ep, g, ex, dt, el⟩ := id p
  let bad : Obj := { cls := .type "int" }
  let h2 : Heap := { objs := h.objs.setIfInBounds a' bad, life := h.life }
  have q := st h h2 p fun o e => by
    have : h2.objs[a]? = h.objs[a]? := by
      show (h.objs.setIfInBounds a' bad)[a]? = _
      rw [Array.getElem?_setIfInBounds_ne ne]
    have e2 : h2.get? a = h.get? a := by unfold Heap.get?; rw [this]
    rw [e2]; exact e
  obtain ⟨ob2, es2, ep2, g2, ex2, dt2, el2⟩ := q
  have hl : a' < h.objs.size := by
    unfold Heap.get? at g
    rcases Nat.lt_or_ge a' h.objs.size with z | z
    · exact z
    · rw [Array.getElem?_eq_none z] at g; cases g
  have e3 : h2.get? a' = some bad := by
    unfold Heap.get?
    have : h2.objs[a']? = some bad := by
      show (h.objs.setIfInBounds a' bad)[a']? = _
      rw [Array.getElem?_setIfInBounds_self_of_lt hl]
    rw [this]
  rw [e3] at g2
  cases g2
  have := ex2.1
  exact absurd (Value.type.inj this) (by decide)
theorem ext_ok {P : Program} {w w0 : World} {H : Hp} {h : Heap} {a : Addr} {L : List (NestedKey × Addr × Value)} (p : dictAt w0 a L h) : ObjOk P w H h a (.ext (dictAt w0 a L)) := by
  unfold ObjOk
  refine ⟨p, ?_, fun h1 h2 p1 k => ?_⟩
  · obtain ⟨o, _, _, g, _⟩ := p; exact ⟨o, g⟩
  · obtain ⟨o, es, ep, g, r⟩ := p1; exact ⟨o, es, ep, k o g, r⟩
section
variable {X : Cx} {pins : List (Addr × Obj)} {s : Shared} {σ : L2.St} {G H : Hp}
theorem dn_key (I : Inv X pins σ H s) (sg : Sub G H) {d : D} {k : NestedKey} {b : Addr} (hk : NkOk d k) (r : Rp X.K G (.ref b) d) : (nestedKind X.prog X.w).is s.heap k b := by
  obtain ⟨as, rd⟩ := Dp.reads I _ _ (.ref b) (r.dpH sg hk.sh) rfl
  exact ⟨(nk_reads d k _ _ hk.is rd).1, hk.dp⟩
theorem dn_dict (I : Inv X pins σ H s) (sg : Sub G H) {a : Addr} {ks : List D} {φ : Heap → Prop} (hH : H a = some (.ext φ)) (h : DnOk X.K G ks φ) :
    ∃ L, a ≠ sysModules ∧ φ = dictAt X.w a L ∧ Paired (fun (x : NestedKey × Addr × Value) (d : D) => NkOk d x.1 ∧ Rp X.K G (.ref x.2.1) d) L ks ∧ (L.map (·.1)).Nodup ∧ Heap.DictOfH (nestedKind X.prog X.w) s.heap a L := by
  obtain ⟨a', w0, L, h0, rfl, h2, h3⟩ := h
  have ob := I.hok a _ hH
  have e := ext_tie ob
  subst e
  have ew : dictAt w0 a' L = dictAt X.w a' L := by
    have : (L.map fun x => (⟨NestedKey.hash w0 x.1, .ref x.2.1, x.2.2⟩ : DictEntry)) = L.map fun x => ⟨NestedKey.hash X.w x.1, .ref x.2.1, x.2.2⟩ := by
      clear ob hH h3
      induction h2 with
      | nil => rfl
      | cons q _ ih => rw [List.map_cons, List.map_cons, ih, hash_any w0 X.w _ _ q.1.is]
    unfold dictAt
    rw [this]
  rw [ew] at ob ⊢
  have p : dictAt X.w a' L s.heap := by
    unfold ObjOk at ob; exact ob.1
  obtain ⟨o, es, ep, g, ex, dt, el⟩ := p
  refine ⟨L, h0, rfl, h2, h3, o, es, ep, g, ex, dt, el, fun x hx => ?_, h3⟩
  have : ∀ {L : List (NestedKey × Addr × Value)} {ks : List D}, Paired (fun (x : NestedKey × Addr × Value) (d : D) => NkOk d x.1 ∧ Rp X.K G (.ref x.2.1) d) L ks → ∀ x ∈ L, ∃ d, NkOk d x.1 ∧ Rp X.K G (.ref x.2.1) d := fun h => by
    induction h with
    | nil => intro x hx; cases hx
    | cons q _ ih =>
      intro x hx
      rcases List.mem_cons.mp hx with z | z
      · rw [z]; exact ⟨_, q⟩
      · exact ih x z
  obtain ⟨d, q1, q2⟩ := this h2 x hx
  exact dn_key I sg q1 q2
end
/-! ### {} -/
def oDN : M OC := M.ret (.dN [])
section
variable {X : Cx} {Γ : Gm} {W : WX} {P : List Nat} {i : Nat} {x : Str} {px pos : Pos}
def tDNewN (w : World) : TE := fun σ H Q => ∀ p, H p = none → p ≠ sysModules → Q (.ref p) (upd H p (.ext (dictAt w p [])))
theorem pe_dnewN : PE X (.Dict [] [] pos) (tDNewN X.w) := by
  refine ⟨fun pins s σ H Q I h => wpAny_Dict_empty ?_⟩
  have fr := I.hok.fresh (Nat.le_refl s.heap.objs.size)
  have big := I.big
  exact ⟨.ref s.heap.objs.size, _, I.laid (o := .ext (dictAt X.w s.heap.objs.size [])) (fun _ _ q => Heap.get?_push_of_some _ q) (Nat.le_refl _) (ext_ok ⟨_, #[], _, Heap.get?_push_size _ rfl, ⟨rfl, rfl, rfl⟩, rfl, rfl⟩), rfl, h _ fr (fun e => by rw [e] at big; exact Nat.lt_irrefl _ big)⟩
theorem do_empN : PE X (.Dict [] [] pos) (tO Γ W oDN) := PE.imp pe_dnewN fun σ H Q ⟨G, ρ, s, h⟩ p np nm => by
  have e := Ext0.newH (o := .ext (dictAt X.w p [])) s.sub np
  refine h (.ref p) G _ (s.ext e) ⟨p, _, rfl, s.sub.none np, upd_same, .dN ⟨p, X.w, [], nm, rfl, .nil, List.nodup_nil⟩, fun ⟨j, y⟩ => ?_, .inr np⟩
  obtain ⟨c, e1, e2⟩ := y
  obtain ⟨a, u, f1, f2, f3, f4⟩ := s.own e1
  rw [e2] at f1; cases f1
  rw [np] at f3; cases f3
end
/-! ### d[k] = v -/
def keyOkB (d : D) : Bool := match nkD d with
  | some k => decide (k.depth ≤ 8) && (SeqAt.shaped d && isTup d)
  | none => false
theorem keyOkB_ok {d : D} (h : keyOkB d = true) : ∃ k, NkOk d k := by
  unfold keyOkB at h
  cases q : nkD d with
  | none => rw [q] at h; cases h
  | some k =>
    rw [q] at h
    simp only [Bool.and_eq_true, decide_eq_true_eq] at h
    exact ⟨k, q, h.1, h.2.1, h.2.2⟩
def putN (ks : List D) (d : D) : List D := if (ks.any fun e => decide (nkD e = nkD d)) = true then ks else ks ++ [d]
theorem dn_any {K : PySem.W.Frag} {G : Hp} {k : NestedKey} : ∀ {L : List (NestedKey × Addr × Value)} {ks : List D}, Paired (fun (x : NestedKey × Addr × Value) (d : D) => NkOk d x.1 ∧ Rp K G (.ref x.2.1) d) L ks →
    (atKey L k).isSome = ks.any fun e => decide (nkD e = some k)
  | [], [], _ => rfl
  | x :: L, d :: ks, h => by
    cases h with
    | cons q t =>
      have ih := dn_any (k := k) t
      unfold atKey at ih ⊢
      rw [List.find?_cons, List.any_cons, q.1.is]
      by_cases z : x.1 = k
      · rw [decide_eq_true z]
        simp [z]
      · rw [decide_eq_false z]
        have : decide (some x.1 = some k) = false := decide_eq_false fun e => z (Option.some.inj e)
        rw [this, Bool.false_or]
        exact ih
theorem dn_put {K : PySem.W.Frag} {G : Hp} {k : NestedKey} {v : Value} : ∀ {L : List (NestedKey × Addr × Value)} {ks : List D}, Paired (fun (x : NestedKey × Addr × Value) (d : D) => NkOk d x.1 ∧ Rp K G (.ref x.2.1) d) L ks →
    Paired (fun (x : NestedKey × Addr × Value) (d : D) => NkOk d x.1 ∧ Rp K G (.ref x.2.1) d) (L.map (putAt k v)) ks
  | [], [], _ => .nil
  | x :: L, d :: ks, h => by
    cases h with
    | cons q t =>
      refine .cons ?_ (dn_put t)
      unfold putAt
      split
      · exact q
      · exact q
theorem dn_app {K : PySem.W.Frag} {G : Hp} : ∀ {L M : List (NestedKey × Addr × Value)} {ks ls : List D}, Paired (fun (x : NestedKey × Addr × Value) (d : D) => NkOk d x.1 ∧ Rp K G (.ref x.2.1) d) L ks →
    Paired (fun (x : NestedKey × Addr × Value) (d : D) => NkOk d x.1 ∧ Rp K G (.ref x.2.1) d) M ls → Paired (fun (x : NestedKey × Addr × Value) (d : D) => NkOk d x.1 ∧ Rp K G (.ref x.2.1) d) (L ++ M) (ks ++ ls)
  | [], _, [], _, _, h => h
  | _ :: _, _, _ :: _, _, h, h2 => by
    cases h with
    | cons q t => exact .cons q (dn_app t h2)
def rSetN (K : PySem.W.Frag) : TSet := fun o i v H Q => ∃ (a b : Addr) (G : Hp) (ks : List D) (kd : D) (k : NestedKey) (φ : Heap → Prop), o = .ref a ∧ i = .ref b ∧ H a = some (.ext φ) ∧ Sub G H ∧ DnOk K G ks φ ∧ NkOk kd k ∧ Rp K G (.ref b) kd ∧ ks.length < 16777216 ∧ ∀ φ', DnOk K G (putN ks kd) φ' → Q (upd H a (.ext φ'))
theorem set_dictN {X : Cx} (hu : X.A.units + 12 < cLine) : PSet X (rSetN X.K) := by
  intro pins s σ H o i v ov iv u Q I ro ri rv h
  obtain ⟨a, b, G, ks, kd, k, φ, rfl, rfl, hH, sg, dn, nk, r, hl, q⟩ := h
  cases ro
  cases ri
  obtain ⟨L, h0, rfl, h2, h3, dk⟩ := dn_dict I sg hH dn
  have hL : L.length = ks.length := h2.length
  refine wpAny_setItem_heap (knd := nestedKind X.prog X.w) (show X.A.units + 1 + 8 < cLine by omega) (dn_key I sg nk r) dk (fun h' hd' hs => ?_) (by rw [sizeLine_eq]; omega)
  obtain ⟨ob, es, ep, g, ex, dt, el, al, nd⟩ := hd'
  refine ⟨upd H a (.ext (dictAt X.w a (storedH L k b u))), I.write (x := a) (e := a) (by rw [hH]; trivial) (.inl rfl) (fun c o ne e => by rw [hs.2 c ne]; exact e) ⟨ob, g⟩ (ext_ok ⟨ob, es, ep, g, ex, dt, el⟩), q _ ⟨a, X.w, _, h0, rfl, ?_, nd⟩⟩
  have an := dn_any (k := k) h2
  unfold storedH putN
  rw [nk.is, an]
  split
  · exact dn_put h2
  · exact dn_app h2 (.cons ⟨nk, r⟩ .nil)
def slotN {α : Type} (i : Nat) (f : List D → M α) : M α := fun ρ => match ρ[i]? with
  | some (.own (.dN ks)) => f ks ρ
  | _ => .bad
theorem slotN_post {α : Type} {i : Nat} {f : List D → M α} {ρ : Rho} {Q : α → Rho → Prop} {E : Exc → Rho → Prop} (h : (slotN i f ρ).Post Q E) : ∃ ks, ρ[i]? = some (.own (.dN ks)) ∧ (f ks ρ).Post Q E := by
  unfold slotN at h
  split at h
  · rename_i ks e; exact ⟨ks, e, h⟩
  · exact h.elim
theorem SR.ownN {K : PySem.W.Frag} {G H : Hp} {σ : St} {ρ : Rho} (s : SR K G H σ ρ) {i : Nat} {ks : List D} (h : ρ[i]? = some (.own (.dN ks))) : ∃ a φ, σ[i]? = some (some (.ref a)) ∧ H a = some (.ext φ) ∧ DnOk K G ks φ := by
  obtain ⟨a, u, e1, e2, e3, e4⟩ := s.own h
  cases e4 with
  | dN r => exact ⟨a, _, e1, e3, r⟩
def sSetN (i : Nat) (mv mk : M D) : M Flw := mv.bind fun _ => slotN i fun _ => mk.bind fun kd => slotN i fun ks => if keyOkB kd = true ∧ ks.length < 16777216 then fun ρ => .ok .next (ρ.set i (.own (.dN (putN ks kd)))) else M.fail
theorem isTup_rp {K : PySem.W.Frag} {G : Hp} {v : V} {d : D} (h : Rp K G v d) (t : isTup d = true) : ∃ b, v = .ref b := by
  cases h with
  | tup _ _ => exact ⟨_, rfl⟩
  | non => cases t
  | bl _ => cases t
  | int _ => cases t
  | str _ => cases t
  | lst _ _ => cases t
  | emp _ => cases t
  | scr _ _ => cases t
section
variable {X : Cx} {Γ : Gm} {W : WX} {P : List Nat} {i : Nat} {x : Str} {px pos : Pos} {mv mk : M D} {ev ek : Expr}
theorem ds_setN (hu : X.A.units + 12 < cLine) (hx : PE X (.Name x px) (tVar i)) (hv : PE X ev (tD Γ W mv)) (hk : PE X ek (tD Γ W mk))
    (ha : ∀ v, assign (.Subscript (.Name x px) ek pos) X.env v = (do
      let ov ← holding [v] (eval (.Name x px) X.env)
      let iv ← holding [v, ov] (eval ek X.env)
      standAt pos
      holding [v, ov, iv] (setItem ov iv v)
      release [v, ov, iv] []) := by intro _; rfl) {spos : Pos} (hs : swapsWithSole [.Subscript (.Name x px) ek pos] ev spos.line X.env = pure false := by rfl) (hw : swappedStores [.Subscript (.Name x px) ek pos] ev X.env = pure none := by rfl)
    (h1 : (assignEach [.Subscript (.Name x px) ek pos] X.env).map (·.2) = [assign (.Subscript (.Name x px) ek pos) X.env] := by rfl) (hK : X.K = Γ.K := by rfl) :
    PS X (.Assign [.Subscript (.Name x px) ek pos] ev spos) (tS Γ W P (sSetN i mv mk)) := by
  refine PS.imp (ps_asg hv (pg_sub hx hk (set_dictN hu) ha) hs hw h1) fun D σ H ⟨G, ρ, s, h⟩ => ⟨G, ρ, s, (post_bind.mp h).imp (fun d ρ1 h1 v G1 H1 x1 r1 => ?_) fun _ _ e => e.ew⟩
  obtain ⟨ks0, e, h2⟩ := slotN_post h1
  obtain ⟨a, φ0, e1, e2, _⟩ := x1.sr.ownN e
  refine ⟨.ref a, e1, G1, ρ1, x1.sr, (post_bind.mp h2).imp (fun kd ρ2 h3 u G2 H2 x2 r2 => ?_) fun _ _ e => (e.ew).tr x1⟩
  obtain ⟨ks, f, h4⟩ := slotN_post h3
  obtain ⟨⟨hok, hz⟩, h5⟩ := ite_post h4
  obtain ⟨k, nk⟩ := keyOkB_ok hok
  obtain ⟨b, rfl⟩ := isTup_rp r2 nk.tp
  obtain ⟨a', φ, g1, g2, g3⟩ := x2.sr.ownN f
  have g1' := g1
  rw [e1] at g1'; cases g1'
  refine ⟨a, b, G2, ks, kd, k, φ, rfl, rfl, g2, x2.sr.sub, hK ▸ g3, nk, hK ▸ r2, hz, fun φ' dn => ?_⟩
  exact h5 σ G2 _ ((x1.tr x2).tr (x2.sr.updO f g1 (.dN (hK ▸ dn)))) fun _ _ => rfl
end
/-! ### sorted -/
def rSortN (K : PySem.W.Frag) : List V → Hp → VK → Prop := fun xs H Q => ∃ (a : Addr) (G : Hp) (ks : List D) (φ : Heap → Prop), xs = [.ref a] ∧ H a = some (.ext φ) ∧ Sub G H ∧ DnOk K G ks φ ∧ sortable ks = true ∧
  ∀ (ys : List V) (p : Addr), RpAll K G ys (sortD ks) → H p = none → Q (.ref p) (upd H p (.lst ys))
open PySem.W (EachIs AllAlike Sortable)
theorem eachN {X : Cx} {pins : List (Addr × Obj)} {s : Shared} {σ : St} {G H : Hp} (I : Inv X pins σ H s) (sg : Sub G H) : ∀ {L : List (NestedKey × Addr × Value)} {ks : List D}, Paired (fun (x : NestedKey × Addr × Value) (d : D) => NkOk d x.1 ∧ Rp X.K G (.ref x.2.1) d) L ks →
    EachIs (fun u d => ∃ v, RelV v u ∧ Rp X.K G v d) (L.map fun x => Value.ref x.2.1) ks ∧ EachIs (fun u d => Reads s.heap u d []) (L.map fun x => Value.ref x.2.1) ks
  | [], [], _ => ⟨.nil, .nil⟩
  | x :: L, d :: ks, h => by
    cases h with
    | cons q t =>
      obtain ⟨e1, e2⟩ := eachN I sg t
      obtain ⟨as, rd⟩ := Dp.reads I _ _ (.ref x.2.1) (q.2.dpH sg q.1.sh) rfl
      have e := (nk_reads d _ _ _ q.1.is rd).2
      subst e
      exact ⟨.cons ⟨.ref x.2.1, (show RelV (.ref x.2.1) (Value.ref x.2.1) from rfl), q.2⟩ e1, .cons rd e2⟩
theorem each_imp {α β : Type} {R R' : α → β → Prop} (h : ∀ a b, R a b → R' a b) : ∀ {as : List α} {bs : List β}, EachIs R as bs → EachIs R' as bs
  | [], [], _ => .nil
  | _ :: _, _ :: _, .cons a b => .cons (h _ _ a) (each_imp h b)
theorem keys_of {es : Array DictEntry} {acc : Array Value} {L : List (NestedKey × Addr × Value)} {f : NestedKey × Addr × Value → DictEntry} (hf : ∀ x, (f x).key = .ref x.2.1) (el : es.toList = L.map f) (h : ItemsOf (fun i v => ∃ hi : i < es.size, v = es[i].key) acc es.size) : acc.toList = L.map fun x => Value.ref x.2.1 := by
  obtain ⟨h1, h2⟩ := h
  have hl := congrArg List.length el
  rw [List.length_map] at hl
  simp at hl
  refine List.ext_getElem (by simp; omega) fun j a b => ?_
  have ha : j < acc.size := by simpa using a
  obtain ⟨hi, e⟩ := h2 j acc[j] (by rw [Array.getElem?_eq_getElem ha])
  have e2 : es[j] = f (L[j]'(by omega)) := by
    have : es.toList[j]'(by simpa using hi) = (L.map f)[j]'(by rw [List.length_map]; omega) := by
      simp only [el]
    rw [List.getElem_map] at this
    simpa using this
  rw [List.getElem_map, ← hf, ← e2, ← e]
  simp
theorem cr_sortN {X : Cx} (calm : X.calm = true) (hu : X.A.units + 67 < cLine) : CallR X (.builtin "sorted") (rSortN X.K) := by
  intro pins s σ H vs us Q I r h
  obtain ⟨a, G, ks, φ, rfl, hH, sg, dn, hso, q⟩ := h
  obtain ⟨u, rfl, ru⟩ := vals1 r
  obtain rfl : u = Value.ref a := ru
  obtain ⟨L, h0, rfl, h2, h3, dk⟩ := dn_dict I sg hH dn
  obtain ⟨ob, es, ep, g, ex, dt, el, al, nd⟩ := dk
  unfold sortable at hso
  simp only [Bool.and_eq_true, decide_eq_true_eq] at hso
  obtain ⟨s1, s2, s3, s4⟩ := hso
  have shp : ∀ d ∈ ks, SeqAt.shaped d = true := fun d hd => List.all_eq_true.mp s3 d hd
  have hL : L.length = ks.length := h2.length
  have hes : es.size = ks.length := by
    have := congrArg List.length el
    rw [List.length_map] at this
    simp at this; omega
  have hal : AllAlike (ks.map id) := by
    rw [List.map_id]
    exact fun d hd d' hd' => List.all_eq_true.mp (List.all_eq_true.mp s1 d hd) d' hd'
  have hsb : Sortable (ks.map id) := by
    rw [List.map_id]
    refine .inl fun d hd => ?_
    have := List.all_eq_true.mp s2 d hd
    unfold tupNE at this
    split at this
    · exact ⟨_, _, rfl⟩
    · cases this
  have src := KdlSrc.rawDict (prog := X.prog) (w := X.w) (d := a) (es := es) (ep := ep) (by simpa using h0)
  refine Calls.call_function_entry PyProof.Rows.kind_sorted PyProof.Rows.plain_sorted PyProof.Rows.entry_sorted (PyProof.Rows.args_sorted1 _) ?_
  refine wpAny_bind (wpAny_pure (wpAny_bind (W.kdu_collect src (I.ok.hd calm) ⟨ob, g, ex, dt⟩ (by rw [sizeLine_eq]; omega) fun h' tk acc hk hacc => wpAny_bind (wpAny_newList (wpAny_bind (wpAny_holding ?_)) ?_))))
  · have ea := keys_of (fun _ => rfl) el hacc
    have J : Inv X pins σ H { heap := h', gens := s.gens, drawn := s.drawn, toks := tk, os := s.os } := I.kept hk
    obtain ⟨e1, e2⟩ := eachN J sg h2
    rw [← ea] at e1 e2
    have got : (h'.push { cls := Value.type "list", data := Data.seq acc.toList.toArray }).get? h'.objs.size = some (PyProof.Rows.seqObj "list" acc.toList.toArray 0) := Heap.get?_push_size h' rfl
    refine W.list_sort_data (R := fun u d => ∃ v, RelV v u ∧ Rp X.K G v d) (enc := id) (bs := ks) (n := 0) got e1 (each_imp (fun u d rd => ⟨[], PyProof.Rows.Reads.keeps (fun b o e => Heap.get?_push_of_some _ e) rd, fun z => by cases z⟩) e2) hal hsb (by rw [sizeLine_eq]; exact s4) (fun d hd => ?_) fun out ol eo => ?_
    · have := SeqAt.depth_of_shaped (shp d hd)
      show X.A.units + 1 + 1 + d.depth < cLine
      omega
    · obtain ⟨ys, hv, hr2⟩ := eachV eo
      obtain ⟨n, hn⟩ := PyProof.Rows.sortedHeap_at (out := out.toArray) got
      refine wpAny_pure ⟨_, rfl, .ref h'.objs.size, upd H h'.objs.size (.lst ys), J.laid (t' := tk) (fun b o e => ?_) (Nat.le_refl _) ⟨?_, out, n, hv, hn⟩, rfl, q ys _ hr2 (J.hok.fresh (Nat.le_refl _))⟩
      · have hb : b < h'.objs.size := Heap.lt_size e
        have e3 := PyProof.Rows.sortedHeap_old (h := h'.push { cls := Value.type "list", data := Data.seq acc.toList.toArray }) (a := h'.objs.size) (b := b) (vs := acc.toList) (out := out.toArray) (Nat.ne_of_lt hb) (by show b < (h'.objs.push _).size; rw [Array.size_push]; exact Nat.lt_succ_of_lt hb)
        exact e3.trans (Heap.get?_push_of_some _ e)
      · rw [hv.length, ol, sizeLine_eq]; exact s4
  · have := hacc.1
    rw [sizeLine_eq]; simp; omega
theorem hu12 {A : Around} {k : Nat} (hr : Room k A) : A.units + 12 < cLine := by have := hr.un; omega
def eSortN (i : Nat) : M D := slotN i fun ks => if sortable ks = true then M.ret (.list (sortD ks)) else M.fail
section
variable {X : Cx} {Γ : Gm} {W : WX} {i : Nat} {x : Str} {px p pos : Pos}
theorem de_sortN (hu : X.A.units + 67 < cLine) (hg : Gl X "sorted") (hm : X.mg "sorted" = none) (hx : PE X (.Name x px) (tVar i)) (hK : X.K = Γ.K := by rfl) (calm : X.calm = true := by rfl) : PE X (.Call (.Name "sorted" p) [.Name x px] [] pos) (tD Γ W (eSortN i)) := by
  refine PE.imp (pe_callB (cr_sortN calm hu) hg hm (by decide +kernel) (pa_cons hx pa_nil)) fun σ H Q ⟨G, ρ, s, h⟩ => ?_
  obtain ⟨ks, e, h2⟩ := slotN_post h
  obtain ⟨hs, h3⟩ := ite_post h2
  obtain ⟨a, φ, e1, e2, dn⟩ := s.ownN e
  refine ⟨.ref a, e1, a, G, ks, φ, rfl, e2, s.sub, hK ▸ dn, hs, fun ys q ry nq => ?_⟩
  have x := Ext0.new (o := .lst ys) s.sub nq
  exact h3 (.ref q) _ _ (s.ext x) (.lst upd_same ((hK ▸ ry : RpAll Γ.K G ys (sortD ks)).mono x.g))
end
end DL

/-! TBL: tables and histories, plain Lean. -/
namespace My
open PySem PySem.Spec L2 DL
abbrev Tb := List (List Int)
def rowD (r : List Int) : D := .tuple (r.map .int)
def tabD (T : Tb) : D := .tuple (T.map rowD)
def dy (T : Tb) (j i : Nat) : Int := (T.getD j []).getD i 0
def Shp (T : Tb) : Prop := ∀ j, j < T.length → (T.getD j []).length = j
/-- no dict with entries -/
def ND (d : D) : Prop := ∀ p l, d ≠ .dict (p :: l)
def ND2 (d : D) : Prop := ND d ∧ ∀ xs, d = .tuple xs → ∀ x ∈ xs, ND x
def ND3 (d : D) : Prop := ND d ∧ ∀ xs, d = .tuple xs → ∀ x ∈ xs, ND2 x
def dayOk : D → Bool
  | .int n => decide (0 ≤ n)
  | _ => false
def rowOk (k : Nat) : D → Bool
  | .tuple xs => decide ((xs.length : Int) = k) && xs.all dayOk
  | _ => false
def tblOk : D → Bool
  | .tuple xs => !xs.isEmpty && (xs.mapIdx fun i x => (i, x)).all fun p => rowOk p.1 p.2
  | _ => false
theorem all_mapIdx {xs : List D} {q : Nat × D → Bool} : (xs.mapIdx fun i x => (i, x)).all q = true ↔ ∀ k d, xs[k]? = some d → q (k, d) = true := by
  rw [List.all_eq_true]
  constructor
  · intro h k d e
    refine h (k, d) (List.mem_of_getElem? (i := k) ?_)
    rw [List.getElem?_mapIdx, e]; rfl
  · intro h p hp
    obtain ⟨k, hk⟩ := List.getElem?_of_mem hp
    rw [List.getElem?_mapIdx] at hk
    cases e : xs[k]? with
    | none => rw [e] at hk; cases hk
    | some d => rw [e] at hk; cases hk; exact h k d e
theorem days_ints : ∀ {xs : List D}, xs.all dayOk = true → ∃ ns : List Int, xs = ns.map .int ∧ ∀ n ∈ ns, 0 ≤ n
  | [], _ => ⟨[], rfl, by simp⟩
  | x :: xs, h => by
    simp only [List.all_cons, Bool.and_eq_true] at h
    obtain ⟨ns, e, hn⟩ := days_ints h.2
    cases x <;> simp [dayOk] at h
    rename_i n
    exact ⟨n :: ns, by rw [e]; rfl, fun m hm => by
      rcases List.mem_cons.mp hm with z | z
      · subst z; exact h.1
      · exact hn m z⟩
theorem tbl_tab {d : D} (h : tblOk d = true) : ∃ T : Tb, d = tabD T ∧ Shp T ∧ T ≠ [] ∧ ∀ r ∈ T, ∀ x ∈ r, 0 ≤ x := by
  cases d <;> simp only [tblOk, Bool.false_eq_true] at h
  rename_i xs
  simp only [Bool.and_eq_true] at h
  obtain ⟨h0, h⟩ := h
  have h' := all_mapIdx.mp h
  have key : ∀ (ys : List D) (k0 : Nat), (∀ k d, ys[k]? = some d → rowOk (k0 + k) d = true) → ∃ T : Tb, ys = T.map rowD ∧ (∀ k r, T[k]? = some r → r.length = k0 + k) ∧ ∀ r ∈ T, ∀ x ∈ r, 0 ≤ x := by
    intro ys
    induction ys with
    | nil => intro k0 _; exact ⟨[], rfl, by simp, by simp⟩
    | cons y ys ih =>
      intro k0 hk
      obtain ⟨T, e, hl, hn⟩ := ih (k0 + 1) fun k d e => by
        have := hk (k + 1) d (by simpa using e)
        rwa [show k0 + (k + 1) = k0 + 1 + k by omega] at this
      have hy := hk 0 y rfl
      cases y <;> simp only [rowOk, Bool.false_eq_true] at hy
      rename_i zs
      simp only [Bool.and_eq_true, decide_eq_true_eq] at hy
      obtain ⟨ns, e2, hn2⟩ := days_ints hy.2
      refine ⟨ns :: T, by rw [e, e2]; rfl, fun k r hr => ?_, fun r hr => ?_⟩
      · cases k with
        | zero =>
          simp at hr; subst hr
          have := hy.1
          rw [e2, List.length_map] at this
          omega
        | succ k => have := hl k r (by simpa using hr); omega
      · rcases List.mem_cons.mp hr with z | z
        · subst z; exact hn2
        · exact hn r z
  obtain ⟨T, e, hl, hn⟩ := key xs 0 (by simpa using h')
  refine ⟨T, by rw [e]; rfl, fun j hj => ?_, fun z => ?_, hn⟩
  · have := hl j T[j] (List.getElem?_eq_getElem hj)
    simp [List.getD, hj] at this ⊢
    exact this
  · subst z; rw [e] at h0; simp at h0
theorem tabD_at {T : Tb} {j : Nat} (h : j < T.length) : gIx (tabD T) (.int j) = some (rowD (T.getD j [])) :=
  gIx_tup rfl (by rw [List.getElem?_map, List.getElem?_eq_getElem h]; simp [List.getD, h])
theorem rowD_at {r : List Int} {i : Nat} (h : i < r.length) : gIx (rowD r) (.int i) = some (.int (r.getD i 0)) :=
  gIx_tup rfl (by rw [List.getElem?_map, List.getElem?_eq_getElem h]; simp [List.getD, h])
theorem day_at {T : Tb} (s : Shp T) {i j : Nat} (h : i < j) (hj : j < T.length) : gIx (rowD (T.getD j [])) (.int i) = some (.int (dy T j i)) := rowD_at (by rw [s j hj]; exact h)
/-! ### the least two of three -/
def P3 (a b c : Int) : Prop := (a = b ∧ a ≤ c) ∨ (a = c ∧ a ≤ b) ∨ (b = c ∧ b ≤ a)
instance {a b c : Int} : Decidable (P3 a b c) := by unfold P3; infer_instance
def badT (T : Tb) : Option (Nat × Nat × Nat) :=
  (List.range T.length).findSome? fun i => (List.range (T.length - (i + 1))).findSome? fun j => (List.range (T.length - (i + 1 + j + 1))).findSome? fun k =>
    if P3 (dy T (i + 1 + j) i) (dy T (i + 1 + j + 1 + k) i) (dy T (i + 1 + j + 1 + k) (i + 1 + j)) then none else some (i, i + 1 + j, i + 1 + j + 1 + k)
theorem badT_def (T : Tb) : badT T = ((List.range T.length).findSome? fun i => (List.range (T.length - (i + 1))).findSome? fun j => (List.range (T.length - (i + 1 + j + 1))).findSome? fun k =>
    if P3 (dy T (i + 1 + j) i) (dy T (i + 1 + j + 1 + k) i) (dy T (i + 1 + j + 1 + k) (i + 1 + j)) then none else some (i, i + 1 + j, i + 1 + j + 1 + k)) := rfl
def tripD : Nat × Nat × Nat → D := fun t => .tuple [.int t.1, .int t.2.1, .int t.2.2]
def optD : Option (Nat × Nat × Nat) → D
  | none => .none
  | some t => tripD t
theorem badT_none {T : Tb} (h : ∀ i j k, i < j → j < k → k < T.length → P3 (dy T j i) (dy T k i) (dy T k j)) : badT T = none := by
  unfold badT
  rw [List.findSome?_eq_none_iff]
  intro i hi
  rw [List.findSome?_eq_none_iff]
  intro j hj
  rw [List.findSome?_eq_none_iff]
  intro k hk
  rw [List.mem_range] at hi hj hk
  rw [if_pos (h _ _ _ (by omega) (by omega) (by omega))]
theorem sort3 (a b c : Int) : ∃ x y z, sortI [a, b, c] = [x, y, z] ∧ (x = y ↔ P3 a b c) := by
  simp only [sortI, insI]
  split <;> rename_i h1 <;> (try simp only [insI]) <;> split <;> rename_i h2 <;> (try simp only [insI]) <;> (try (split <;> rename_i h3)) <;> exact ⟨_, _, _, rfl, by unfold P3; omega⟩
theorem count3 (a b c : Int) : (((([a, b, c] : List Int).count (([b, c] : List Int).foldl (fun a b => if b < a then b else a) a) : Nat) : Int) < 2) ↔ ¬ P3 a b c := by
  simp only [List.foldl_cons, List.foldl_nil, List.count_cons, List.count_nil]
  unfold P3
  by_cases h1 : b < a
  · rw [if_pos h1]
    by_cases h2 : c < b
    · rw [if_pos h2]
      have e1 : (a == c) = false := by simp; omega
      have e2 : (b == c) = false := by simp; omega
      simp [e1, e2]; omega
    · rw [if_neg h2]
      have e1 : (a == b) = false := by simp; omega
      by_cases h3 : c = b
      · simp [e1, h3]; omega
      · have e3 : (c == b) = false := by simp [h3]
        simp [e1, e3]; omega
  · rw [if_neg h1]
    by_cases h2 : c < a
    · rw [if_pos h2]
      have e1 : (a == c) = false := by simp; omega
      have e2 : (b == c) = false := by simp; omega
      simp [e1, e2]; omega
    · rw [if_neg h2]
      by_cases h3 : b = a
      · simp [h3]; omega
      · have e3 : (b == a) = false := by simp [h3]
        by_cases h4 : c = a
        · simp [e3, h4]; omega
        · have e4 : (c == a) = false := by simp [h4]
          simp [e3, e4]; omega
/-! ### histories grow -/
structure Hist (T : Tb) : Prop where
  shp : Shp T
  ne : T ≠ []
  bd : ∀ r ∈ T, ∀ x ∈ r, 0 ≤ x ∧ x < 10 ^ 41
  tri : ∀ i j k, i < j → j < k → k < T.length → P3 (dy T j i) (dy T k i) (dy T k j)
def dyS (T : Tb) (a b : Nat) : Int := dy T (max a b) (min a b)
theorem dyS_lt {T : Tb} {a b : Nat} (h : a < b) : dyS T a b = dy T b a := by unfold dyS; rw [Nat.max_eq_right (by omega), Nat.min_eq_left (by omega)]
theorem dyS_comm {T : Tb} (a b : Nat) : dyS T a b = dyS T b a := by unfold dyS; rw [Nat.max_comm, Nat.min_comm]
theorem Hist.sym {T : Tb} (h : Hist T) {a b c : Nat} (ha : a < T.length) (hb : b < T.length) (hc : c < T.length) (ab : a ≠ b) (ac : a ≠ c) (bc : b ≠ c) : P3 (dyS T a b) (dyS T a c) (dyS T b c) := by
  have k : ∀ i j l, i < j → j < l → l < T.length → P3 (dyS T i j) (dyS T i l) (dyS T j l) := fun i j l h1 h2 h3 => by
    rw [dyS_lt h1, dyS_lt h2, dyS_lt (Nat.lt_trans h1 h2)]; exact h.tri i j l h1 h2 h3
  have s1 := dyS_comm (T := T) a b
  have s2 := dyS_comm (T := T) a c
  have s3 := dyS_comm (T := T) b c
  rcases Nat.lt_or_gt_of_ne ab with p | p <;> rcases Nat.lt_or_gt_of_ne ac with q | q <;> rcases Nat.lt_or_gt_of_ne bc with r | r
  · exact k a b c p r hc
  · have := k a c b q r hb; unfold P3 at this ⊢; omega
  · omega
  · have := k c a b q p hb; unfold P3 at this ⊢; omega
  · have := k b a c p q hc; unfold P3 at this ⊢; omega
  · omega
  · have := k b c a r q ha; unfold P3 at this ⊢; omega
  · have := k c b a r p ha; unfold P3 at this ⊢; omega
def newRow (T : Tb) (near : Nat) (late : Int) (n : Nat) : List Int := (List.range n).map fun m => if m = near then late else min late (dyS T near m)
theorem dy_bd {T : Tb} (h : Hist T) (j i : Nat) : 0 ≤ dy T j i ∧ dy T j i < 10 ^ 41 := by
  unfold dy
  by_cases hj : j < T.length
  · have hm : T.getD j [] ∈ T := by simp [List.getD, hj]
    generalize T.getD j [] = r at hm ⊢
    by_cases hi : i < r.length
    · exact h.bd _ hm _ (by simp only [List.getD, List.getElem?_eq_getElem hi]; exact List.getElem_mem hi)
    · rw [show r.getD i 0 = 0 by simp only [List.getD, List.getElem?_eq_none (Nat.le_of_not_lt hi)]; rfl]; omega
  · have : T.getD j [] = [] := by simp only [List.getD, List.getElem?_eq_none (Nat.le_of_not_lt hj)]; rfl
    rw [this]; simp
theorem dy_old {T : Tb} {r : List Int} {j i : Nat} (h : j < T.length) : dy (T ++ [r]) j i = dy T j i := by
  unfold dy; simp only [List.getD]; rw [List.getElem?_append_left h]
theorem dy_new {T : Tb} {r : List Int} {i : Nat} : dy (T ++ [r]) T.length i = r.getD i 0 := by
  unfold dy; simp only [List.getD]; rw [List.getElem?_append_right (Nat.le_refl _)]; simp
theorem newRow_at {T : Tb} {near : Nat} {late : Int} {n i : Nat} (h : i < n) : (newRow T near late n).getD i 0 = if i = near then late else min late (dyS T near i) := by
  simp [newRow, List.getD, h]
theorem Hist.grow {T : Tb} (h : Hist T) {near : Nat} {late : Int} (hn : near < T.length) (h0 : 0 ≤ late) (h1 : late < 10 ^ 41) : Hist (T ++ [newRow T near late T.length]) := by
  refine ⟨fun j hj => ?_, by simp, fun r hr x hx => ?_, fun i j k hij hjk hk => ?_⟩
  · rw [List.length_append, List.length_singleton] at hj
    by_cases q : j < T.length
    · have := h.shp j q
      simp only [List.getD] at this ⊢
      rw [List.getElem?_append_left q]; exact this
    · have : j = T.length := by omega
      subst this
      simp [List.getD, newRow]
  · rcases List.mem_append.mp hr with z | z
    · exact h.bd r z x hx
    · rw [List.mem_singleton] at z
      subst z
      simp only [newRow, List.mem_map, List.mem_range] at hx
      obtain ⟨m, hm, rfl⟩ := hx
      have := dy_bd h (max near m) (min near m)
      split
      · exact ⟨h0, h1⟩
      · unfold dyS; omega
  · rw [List.length_append, List.length_singleton] at hk
    by_cases q : k < T.length
    · rw [dy_old q, dy_old (by omega), dy_old q]; exact h.tri i j k hij hjk q
    · have : k = T.length := by omega
      subst this
      rw [dy_old hjk, dy_new, dy_new, newRow_at (by omega), newRow_at hjk]
      have e := dyS_lt (T := T) hij
      by_cases p1 : i = near
      · subst p1
        rw [if_pos rfl, if_neg (by omega), e]
        unfold P3; omega
      · by_cases p2 : j = near
        · subst p2
          rw [if_neg p1, if_pos rfl, dyS_comm, e]
          unfold P3; omega
        · rw [if_neg p1, if_neg p2]
          have := h.sym hn (show i < T.length by omega) hjk (fun z => p1 z.symm) (fun z => p2 z.symm) (show i ≠ j by omega)
          rw [e] at this
          unfold P3 at this ⊢; omega
theorem hist1 : Hist [[]] := ⟨fun j hj => by simp at hj; subst hj; rfl, by simp, by simp, fun i j k h1 h2 h3 => by simp at h3; omega⟩
end My

namespace My
open PySem PySem.Spec L2 DL
def topS (i : Nat) : Stmt := PySem.Challenge.pw_commondays_k08_bounds_by_all_histories.main.body.getD i (.Pass ⟨0, 0, 0, 0⟩)
abbrev s_day_in : Stmt := topS 10
theorem sc_day_in : FnScope ["table", "one", "other"] ["table", "one", "other"] (defScope s_day_in) := ⟨rfl, rfl, rfl, by decide +kernel, rfl, by decide +kernel, by decide +kernel⟩
abbrev s_widened : Stmt := topS 18
theorem sc_widened : FnScope ["days", "middle", "by_middle", "row", "day", "later"] ["days", "middle"] (defScope s_widened) := ⟨rfl, rfl, rfl, by decide +kernel, rfl, by decide +kernel, by decide +kernel⟩
abbrev s_closed : Stmt := topS 19
theorem sc_closed : FnScope ["lows", "many", "top", "days", "middle", "i", "j", "place", "row", "day"] ["lows"] (defScope s_closed) := ⟨rfl, rfl, rfl, by decide +kernel, rfl, by decide +kernel, by decide +kernel⟩
abbrev s_low_of : Stmt := topS 20
theorem sc_low_of : FnScope ["told", "i", "j", "one", "other", "low", "high"] ["told", "i", "j"] (defScope s_low_of) := ⟨rfl, rfl, rfl, by decide +kernel, rfl, by decide +kernel, by decide +kernel⟩
abbrev s_lows_of : Stmt := topS 21
theorem sc_lows_of : FnScope ["items", "told", "i", "j"] ["items", "told"] (defScope s_lows_of) := ⟨rfl, rfl, rfl, by decide +kernel, rfl, by decide +kernel, by decide +kernel⟩
abbrev s_is_broken : Stmt := topS 22
theorem sc_is_broken : FnScope ["bound", "days", "one", "other", "low", "high"] ["bound", "days"] (defScope s_is_broken) := ⟨rfl, rfl, rfl, by decide +kernel, rfl, by decide +kernel, by decide +kernel⟩
abbrev s_broken_index : Stmt := topS 23
theorem sc_broken_index : FnScope ["told", "days", "index", "bound"] ["told", "days"] (defScope s_broken_index) := ⟨rfl, rfl, rfl, by decide +kernel, rfl, by decide +kernel, by decide +kernel⟩
abbrev s_is_integer : Stmt := topS 7
theorem sc_is_integer : FnScope ["value", "low", "high"] ["value", "low", "high"] (defScope s_is_integer) := ⟨rfl, rfl, rfl, by decide +kernel, rfl, by decide +kernel, by decide +kernel⟩
abbrev s_check_number : Stmt := topS 13
theorem sc_check_number : FnScope ["number"] ["number"] (defScope s_check_number) := ⟨rfl, rfl, rfl, by decide +kernel, rfl, by decide +kernel, by decide +kernel⟩
abbrev s_is_bound : Stmt := topS 16
theorem sc_is_bound : FnScope ["items", "value", "one", "other", "low", "high", "last"] ["items", "value"] (defScope s_is_bound) := ⟨rfl, rfl, rfl, by decide +kernel, rfl, by decide +kernel, by decide +kernel⟩
abbrev s_check_told : Stmt := topS 17
theorem sc_check_told : FnScope ["items", "told", "bound"] ["items", "told"] (defScope s_check_told) := ⟨rfl, rfl, rfl, by decide +kernel, rfl, by decide +kernel, by decide +kernel⟩
abbrev s_check_both : Stmt := topS 27
theorem sc_check_both : FnScope ["items", "told"] ["items", "told"] (defScope s_check_both) := ⟨rfl, rfl, rfl, by decide +kernel, rfl, by decide +kernel, by decide +kernel⟩
abbrev s_is_possible : Stmt := topS 28
theorem sc_is_possible : FnScope ["items", "told"] ["items", "told"] (defScope s_is_possible) := ⟨rfl, rfl, rfl, by decide +kernel, rfl, by decide +kernel, by decide +kernel⟩
abbrev s_chain_above : Stmt := topS 24
theorem sc_chain_above : FnScope ["lows", "one", "other", "day", "chains", "seen", "longer", "chain", "item"] ["lows", "one", "other", "day"] (defScope s_chain_above) := ⟨rfl, rfl, rfl, by decide +kernel, rfl, by decide +kernel, by decide +kernel⟩
abbrev s_conflict_in : Stmt := topS 25
theorem sc_conflict_in : FnScope ["items", "told", "lows", "index", "one", "other", "low", "high"] ["items", "told"] (defScope s_conflict_in) := ⟨rfl, rfl, rfl, by decide +kernel, rfl, by decide +kernel, by decide +kernel⟩
abbrev s_conflict : Stmt := topS 29
theorem sc_conflict : FnScope ["items", "told"] ["items", "told"] (defScope s_conflict) := ⟨rfl, rfl, rfl, by decide +kernel, rfl, by decide +kernel, by decide +kernel⟩
abbrev s_possible_days : Stmt := topS 26
theorem sc_possible_days : FnScope ["items", "told", "days", "index"] ["items", "told"] (defScope s_possible_days) := ⟨rfl, rfl, rfl, by decide +kernel, rfl, by decide +kernel, by decide +kernel⟩
abbrev s_earliest : Stmt := topS 30
theorem sc_earliest : FnScope ["items", "told"] ["items", "told"] (defScope s_earliest) := ⟨rfl, rfl, rfl, by decide +kernel, rfl, by decide +kernel, by decide +kernel⟩
abbrev s__law_cell_at : Stmt := topS 34
theorem sc__law_cell_at : FnScope ["script", "k"] ["script", "k"] (defScope s__law_cell_at) := ⟨rfl, rfl, rfl, by decide +kernel, rfl, by decide +kernel, by decide +kernel⟩
abbrev s__law_same : Stmt := topS 35
theorem sc__law_same : FnScope ["found", "due", "k"] ["found", "due"] (defScope s__law_same) := ⟨rfl, rfl, rfl, by decide +kernel, rfl, by decide +kernel, by decide +kernel⟩
abbrev s__law_bag : Stmt := topS 36
theorem sc__law_bag : FnScope ["cell", "k"] ["cell", "k"] (defScope s__law_bag) := ⟨rfl, rfl, rfl, by decide +kernel, rfl, by decide +kernel, by decide +kernel⟩
abbrev s__law_day : Stmt := topS 38
theorem sc__law_day : FnScope ["days", "i", "j"] ["days", "i", "j"] (defScope s__law_day) := ⟨rfl, rfl, rfl, by decide +kernel, rfl, by decide +kernel, by decide +kernel⟩
abbrev s__law_all : Stmt := topS 39
theorem sc__law_all : FnScope ["many", "last", "found", "item", "longer", "days", "near", "day_here", "line", "j"] ["many", "last"] (defScope s__law_all) := ⟨rfl, rfl, rfl, by decide +kernel, rfl, by decide +kernel, by decide +kernel⟩
abbrev s_is_row : Stmt := topS 8
theorem sc_is_row : FnScope ["value", "size", "day"] ["value", "size"] (defScope s_is_row) := ⟨rfl, rfl, rfl, by decide +kernel, rfl, by decide +kernel, by decide +kernel⟩
abbrev s_is_table : Stmt := topS 9
theorem sc_is_table : FnScope ["value", "index", "row"] ["value"] (defScope s_is_table) := ⟨rfl, rfl, rfl, by decide +kernel, rfl, by decide +kernel, by decide +kernel⟩
abbrev s_bad_in : Stmt := topS 11
theorem sc_bad_in : FnScope ["table", "one", "two", "three", "days"] ["table"] (defScope s_bad_in) := ⟨rfl, rfl, rfl, by decide +kernel, rfl, by decide +kernel, by decide +kernel⟩
abbrev s_is_history : Stmt := topS 12
theorem sc_is_history : FnScope ["value"] ["value"] (defScope s_is_history) := ⟨rfl, rfl, rfl, by decide +kernel, rfl, by decide +kernel, by decide +kernel⟩
abbrev s_check_history : Stmt := topS 14
theorem sc_check_history : FnScope ["history"] ["history"] (defScope s_check_history) := ⟨rfl, rfl, rfl, by decide +kernel, rfl, by decide +kernel, by decide +kernel⟩
abbrev s_is_kept : Stmt := topS 31
theorem sc_is_kept : FnScope ["history", "bound", "one", "other", "low", "high", "day"] ["history", "bound"] (defScope s_is_kept) := ⟨rfl, rfl, rfl, by decide +kernel, rfl, by decide +kernel, by decide +kernel⟩
abbrev s_keeps : Stmt := topS 32
theorem sc_keeps : FnScope ["history", "told", "bound"] ["history", "told"] (defScope s_keeps) := ⟨rfl, rfl, rfl, by decide +kernel, rfl, by decide +kernel, by decide +kernel⟩
abbrev s__law_take : Stmt := topS 37
theorem sc__law_take : FnScope ["bag", "bound", "found", "mixed"] ["bag", "bound"] (defScope s__law_take) := ⟨rfl, rfl, rfl, by decide +kernel, rfl, by decide +kernel, by decide +kernel⟩
abbrev s__law_holds : Stmt := topS 40
theorem sc__law_holds : FnScope ["days", "bound", "day_here"] ["days", "bound"] (defScope s__law_holds) := ⟨rfl, rfl, rfl, by decide +kernel, rfl, by decide +kernel, by decide +kernel⟩
abbrev s__law_keeping : Stmt := topS 41
theorem sc__law_keeping : FnScope ["histories_here", "told_here", "found", "days", "bound"] ["histories_here", "told_here"] (defScope s__law_keeping) := ⟨rfl, rfl, rfl, by decide +kernel, rfl, by decide +kernel, by decide +kernel⟩
abbrev s__law_least : Stmt := topS 42
theorem sc__law_least : FnScope ["histories_here", "found", "i", "j", "days"] ["histories_here"] (defScope s__law_least) := ⟨rfl, rfl, rfl, by decide +kernel, rfl, by decide +kernel, by decide +kernel⟩
abbrev s__law_pair : Stmt := topS 43
theorem sc__law_pair : FnScope ["bag", "many", "one"] ["bag", "many"] (defScope s__law_pair) := ⟨rfl, rfl, rfl, by decide +kernel, rfl, by decide +kernel, by decide +kernel⟩
abbrev s__law_wild : Stmt := topS 44
theorem sc__law_wild : FnScope ["bag", "many", "last", "size", "found", "turn", "one", "two", "low_here", "high_here"] ["bag", "many", "last", "size"] (defScope s__law_wild) := ⟨rfl, rfl, rfl, by decide +kernel, rfl, by decide +kernel, by decide +kernel⟩
abbrev s__law_tree : Stmt := topS 45
theorem sc__law_tree : FnScope ["bag", "many", "last", "rows", "seen", "item", "near", "day_here", "line", "j"] ["bag", "many", "last"] (defScope s__law_tree) := ⟨rfl, rfl, rfl, by decide +kernel, rfl, by decide +kernel, by decide +kernel⟩
abbrev s__law_true : Stmt := topS 46
theorem sc__law_true : FnScope ["bag", "days", "last", "size", "found", "turn", "one", "two", "day_here", "low_here", "high_here"] ["bag", "days", "last", "size"] (defScope s__law_true) := ⟨rfl, rfl, rfl, by decide +kernel, rfl, by decide +kernel, by decide +kernel⟩
abbrev s__law_right : Stmt := topS 47
theorem sc__law_right : FnScope ["bag", "every", "many", "told_here", "fitting", "some", "heard", "days", "due"] ["bag", "every", "many"] (defScope s__law_right) := ⟨rfl, rfl, rfl, by decide +kernel, rfl, by decide +kernel, by decide +kernel⟩
abbrev s_law : Stmt := topS 48
theorem sc_law : FnScope ["script", "every", "k", "bag", "many", "turn", "heard"] ["script"] (defScope s_law) := ⟨rfl, rfl, rfl, by decide +kernel, rfl, by decide +kernel, by decide +kernel⟩
/-! ### the mirrors -/
noncomputable section
def b_day_in : M Flw := (sRet (eBin gIx (eBin gIx (eVar 0) (eCall gMax (eCons (eVar 1) (eCons (eVar 2) eNil)))) (eCall gMin (eCons (eVar 1) (eCons (eVar 2) eNil)))))
def m_day_in : M Slot := fnP [] 3 3 b_day_in
def b_widened : M Flw := (sSeq (sSet 2 (eBin gIx (eVar 0) (eVar 1)))
    (sRetO (oComp [3] (iSeq (eVar 0)) (.nm 3) tYesM (ofO (oComp [4, 5] (iOpt zipD (eCons (eVar 3) (eCons (eVar 2) eNil))) (.tp [(.nm 4), (.nm 5)]) tYesM (eCall gMax (eCons (eVar 4) (eCons (eCall gMin (eCons (eBin gIx (eVar 3) (eVar 1)) (eCons (eVar 5) eNil))) eNil))))))))
def m_widened : M Slot := fnP [] 2 6 b_widened
def b_closed : M Flw := (sSeq (sSet 1 (eCall gLen (eCons (eVar 0) eNil)))
    (sSeq (sSet 2 (eBin gAdd (eC (.int 1)) (eCall gMax (eCons (eBin gAdd (ofO (oLst (eCons (eC (.int 0)) eNil))) (ofO (oComp2 [8, 9] (iSeq (eVar 0)) (.nm 8) tYesM (iSeq (eVar 8)) [9] (.nm 9) tYesM (eVar 9)))) eNil))))
    (sSeq (sSet 3 (ofO (oComp [5] (iOpt rng1 (eCons (eVar 1) eNil)) (.nm 5) tYesM (ofO (oComp [6] (iOpt rng1 (eCons (eVar 1) eNil)) (.nm 6) tYesM (eIf (asB (eBin gEqX (eVar 5) (eVar 6))) (eVar 2) (ofR (eCallF m_day_in (eCons (aFz (eVar 0)) (eCons (aFz (eVar 5)) (eCons (aFz (eVar 6)) eNil)))))))))))
    (sSeq (sFor (iOpt rng1 (eCons (eVar 1) eNil)) (.nm 4)
    (sSet 3 (ofR (eCallF m_widened (eCons (aFz (eVar 3)) (eCons (aFz (eVar 4)) eNil))))))
    (sRet (eCall gTuple (eCons (ofO (oComp [7, 8] (iOpt enumD (eCons (eVar 3) eNil)) (.tp [(.nm 7), (.nm 8)]) tYesM (eCall gTuple (eCons (eSl (eVar 8) pNone (pSome (eVar 7))) eNil)))) eNil)))))))
def m_closed : M Slot := fnP [] 1 10 b_closed
def b_low_of : M Flw := (sRet (eCall gMax (eCons (eBin gAdd (ofO (oLst (eCons (eC (.int 0)) eNil))) (ofO (oComp [3, 4, 5, 6] (iSeq (eVar 0)) (.tp [(.nm 3), (.nm 4), (.nm 5), (.nm 6)]) (asB (eBin gIn (eTup (eCons (eVar 3) (eCons (eVar 4) eNil))) (eTup (eCons (eTup (eCons (eVar 1) (eCons (eVar 2) eNil))) (eCons (eTup (eCons (eVar 2) (eCons (eVar 1) eNil))) eNil))))) (eVar 5)))) eNil)))
def m_low_of : M Slot := fnP [] 3 7 b_low_of
def b_lows_of : M Flw := (sRet (eCall gTuple (eCons (ofO (oComp [2] (iOpt rng1 (eCons (eVar 0) eNil)) (.nm 2) tYesM (eCall gTuple (eCons (ofO (oComp [3] (iOpt rng1 (eCons (eVar 2) eNil)) (.nm 3) tYesM (ofR (eCallF m_low_of (eCons (aFz (eVar 1)) (eCons (aFz (eVar 2)) (eCons (aFz (eVar 3)) eNil))))))) eNil)))) eNil)))
def m_lows_of : M Slot := fnP [] 2 4 b_lows_of
def b_is_broken : M Flw := (sSeq (sAsgG (.tp [(.nm 2), (.nm 3), (.nm 4), (.nm 5)]) (eVar 0))
    (sRet (eAnd (eBin gIsN (eVar 5) (eC .none)) (eBin gGt (ofR (eCallF m_day_in (eCons (aFz (eVar 1)) (eCons (aFz (eVar 2)) (eCons (aFz (eVar 3)) eNil))))) (eVar 5)))))
def m_is_broken : M Slot := fnP [] 2 6 b_is_broken
def b_broken_index : M Flw := (sSeq (sFor (iOpt enumD (eCons (eVar 0) eNil)) (.tp [(.nm 2), (.nm 3)])
    (sIf (asB (ofR (eCallF m_is_broken (eCons (aFz (eVar 3)) (eCons (aFz (eVar 1)) eNil)))))
    (sRet (eVar 2))
    sNext))
    (sRet (eC .none)))
def m_broken_index : M Slot := fnP [] 2 4 b_broken_index
def b_is_integer : M Flw := (sSeq (sIf (bOr (bNot (asB (eIsi "int" (eVar 0)))) (asB (eIsi "bool" (eVar 0))))
    (sRet (eC (.bool false)))
    sNext)
    (sRet (eAnd (eBin gGe (eVar 0) (eVar 1)) (eOr (eBin gIs (eVar 2) (eC .none)) (eBin gLe (eVar 0) (eVar 2))))))
def m_is_integer : M Slot := fnP [] 3 3 b_is_integer
def b_check_number : M Flw := (sIf (bNot (asB (ofR (eCallF m_is_integer (eCons (aFz (eVar 0)) (eCons (aFz (eC (.int 1))) (eCons (aFz (eC .none)) eNil)))))))
    M.fail
    sNext)
def m_check_number : M Slot := fnP [] 1 1 b_check_number
def b_is_bound : M Flw := (sSeq (sIf (bOr (bNot (asB (eIsi "tuple" (eVar 1)))) (asB (eBin gNeX (eCall gLen (eCons (eVar 1) eNil)) (eC (.int 4)))))
    (sRet (eC (.bool false)))
    sNext)
    (sSeq (sAsgG (.tp [(.nm 2), (.nm 3), (.nm 4), (.nm 5)]) (eVar 1))
    (sSeq (sSet 6 (eIf (asB (eBin gIs (eVar 0) (eC .none))) (eC .none) (eBin gSub (eVar 0) (eC (.int 1)))))
    (sSeq (sIf (bOr (bNot (asB (ofR (eCallF m_is_integer (eCons (aFz (eVar 2)) (eCons (aFz (eC (.int 0))) (eCons (aFz (eVar 6)) eNil))))))) (bOr (bNot (asB (ofR (eCallF m_is_integer (eCons (aFz (eVar 3)) (eCons (aFz (eC (.int 0))) (eCons (aFz (eVar 6)) eNil))))))) (asB (eBin gEqX (eVar 2) (eVar 3)))))
    (sRet (eC (.bool false)))
    sNext)
    (sRet (eAnd (ofR (eCallF m_is_integer (eCons (aFz (eVar 4)) (eCons (aFz (eC (.int 0))) (eCons (aFz (eC .none)) eNil))))) (eOr (eBin gIs (eVar 5) (eC .none)) (ofR (eCallF m_is_integer (eCons (aFz (eVar 5)) (eCons (aFz (eVar 4)) (eCons (aFz (eC .none)) eNil))))))))))))
def m_is_bound : M Slot := fnP [] 2 7 b_is_bound
def b_check_told : M Flw := (sIf (bOr (bNot (asB (eIsi "tuple" (eVar 1)))) (bNot (asB (eCall gAll (eCons (ofO (oComp [2] (iSeq (eVar 1)) (.nm 2) tYesM (ofR (eCallF m_is_bound (eCons (aFz (eVar 0)) (eCons (aFz (eVar 2)) eNil)))))) eNil)))))
    M.fail
    sNext)
def m_check_told : M Slot := fnP [] 2 3 b_check_told
def b_check_both : M Flw := (sSeq (sDrop (ofR (eCallF m_check_number (eCons (aFz (eVar 0)) eNil))))
    (sDrop (ofR (eCallF m_check_told (eCons (aFz (eVar 0)) (eCons (aFz (eVar 1)) eNil))))))
def m_check_both : M Slot := fnP [] 2 2 b_check_both
def b_is_possible : M Flw := (sSeq (sDrop (ofR (eCallF m_check_both (eCons (aFz (eVar 0)) (eCons (aFz (eVar 1)) eNil)))))
    (sRet (eBin gIs (ofR (eCallF m_broken_index (eCons (aFz (eVar 1)) (eCons (aFz (ofR (eCallF m_closed (eCons (aFz (ofR (eCallF m_lows_of (eCons (aFz (eVar 0)) (eCons (aFz (eVar 1)) eNil))))) eNil)))) eNil)))) (eC .none))))
def m_is_possible : M Slot := fnP [] 2 2 b_is_possible
def b_chain_above : M Flw := (sSeq (sSet 4 (ofO (oLst (eCons (eTup (eCons (eVar 1) eNil)) eNil))))
    (sSeq (sSet 5 (ofO (oLst (eCons (eVar 1) eNil))))
    (sSeq (whileF (asB (eBin gNeX (eVar 4) (ofO (oLst eNil))))
    (sSeq (sSet 6 (ofO (oLst eNil)))
    (sSeq (sFor (iSeq (eVar 4)) (.nm 7)
    (sFor (iOpt rng1 (eCons (eCall gLen (eCons (eVar 0) eNil)) eNil)) (.nm 8)
    (sIf (bAnd (asB (eBin gNotIn (eVar 8) (eVar 5))) (asB (eBin gGt (ofR (eCallF m_day_in (eCons (aFz (eVar 0)) (eCons (aFz (eBin gIx (eVar 7) (eUn gNeg (eC (.int 1))))) (eCons (aFz (eVar 8)) eNil))))) (eVar 3))))
    (sSeq (sIf (asB (eBin gEqX (eVar 8) (eVar 2)))
    (sRet (eTup (eStar (eVar 7) (eCons (eVar 8) eNil))))
    sNext)
    (sSeq (sSet 6 (ofO (oLst (eStar (eVar 6) (eCons (eTup (eStar (eVar 7) (eCons (eVar 8) eNil))) eNil)))))
    (sSet 5 (ofO (oLst (eStar (eVar 5) (eCons (eVar 8) eNil)))))))
    sNext)))
    (sSet 4 (eVar 6)))) 1048576)
    (sRet (eC .none)))))
def m_chain_above : M Slot := fnP [] 4 9 b_chain_above
def b_conflict_in : M Flw := (sSeq (sSet 2 (ofR (eCallF m_lows_of (eCons (aFz (eVar 0)) (eCons (aFz (eVar 1)) eNil)))))
    (sSeq (sSet 3 (ofR (eCallF m_broken_index (eCons (aFz (eVar 1)) (eCons (aFz (ofR (eCallF m_closed (eCons (aFz (eVar 2)) eNil)))) eNil)))))
    (sSeq (sIf (asB (eBin gIs (eVar 3) (eC .none)))
    (sRet (eC .none))
    sNext)
    (sSeq (sAsgG (.tp [(.nm 4), (.nm 5), (.nm 6), (.nm 7)]) (eBin gIx (eVar 1) (eVar 3)))
    (sRet (eTup (eCons (eVar 3) (eCons (ofR (eCallF m_chain_above (eCons (aFz (eVar 2)) (eCons (aFz (eVar 4)) (eCons (aFz (eVar 5)) (eCons (aFz (eVar 7)) eNil)))))) eNil))))))))
def m_conflict_in : M Slot := fnP [] 2 8 b_conflict_in
def b_conflict : M Flw := (sSeq (sDrop (ofR (eCallF m_check_both (eCons (aFz (eVar 0)) (eCons (aFz (eVar 1)) eNil)))))
    (sRet (ofR (eCallF m_conflict_in (eCons (aFz (eVar 0)) (eCons (aFz (eVar 1)) eNil))))))
def m_conflict : M Slot := fnP [] 2 2 b_conflict
def b_possible_days : M Flw := (sSeq (sSet 2 (ofR (eCallF m_closed (eCons (aFz (ofR (eCallF m_lows_of (eCons (aFz (eVar 0)) (eCons (aFz (eVar 1)) eNil))))) eNil))))
    (sSeq (sSet 3 (ofR (eCallF m_broken_index (eCons (aFz (eVar 1)) (eCons (aFz (eVar 2)) eNil)))))
    (sSeq (sIf (asB (eBin gIsN (eVar 3) (eC .none)))
    M.fail
    sNext)
    (sRet (eVar 2)))))
def m_possible_days : M Slot := fnP [] 2 4 b_possible_days
def b_earliest : M Flw := (sSeq (sDrop (ofR (eCallF m_check_both (eCons (aFz (eVar 0)) (eCons (aFz (eVar 1)) eNil)))))
    (sRet (ofR (eCallF m_possible_days (eCons (aFz (eVar 0)) (eCons (aFz (eVar 1)) eNil))))))
def m_earliest : M Slot := fnP [] 2 2 b_earliest
def b__law_cell_at : M Flw := (sSeq (sIf (asB (eBin gLt (eVar 1) (eCall gLen (eCons (eVar 0) eNil))))
    (sRet (eBin gIx (eVar 0) (eVar 1)))
    sNext)
    (sRet (eC (.int 0))))
def m__law_cell_at : M Slot := fnP [] 2 2 b__law_cell_at
def b__law_same (rec : M Slot) : M Flw := (sSeq (sIf (asB (eIsiT ["list", "tuple"] (eVar 1)))
    (sSeq (sIf (bOr (asB (eBin gNeX (eIsi "list" (eVar 0)) (eIsi "list" (eVar 1)))) (bNot (asB (eIsiT ["list", "tuple"] (eVar 0)))))
    (sRet (eC (.bool false)))
    sNext)
    (sSeq (sIf (asB (eBin gNeX (eCall gLen (eCons (eVar 0) eNil)) (eCall gLen (eCons (eVar 1) eNil))))
    (sRet (eC (.bool false)))
    sNext)
    (sRet (eCall gAll (eCons (ofO (oComp [2] (iOpt rng1 (eCons (eCall gLen (eCons (eVar 1) eNil)) eNil)) (.nm 2) tYesM (ofR (eCallF rec (eCons (aFz (eBin gIx (eVar 0) (eVar 2))) (eCons (aFz (eBin gIx (eVar 1) (eVar 2))) eNil)))))) eNil)))))
    sNext)
    (sSeq (sIf (bOr (asB (eBin gIs (eVar 1) (eC .none))) (asB (eBin gIs (eVar 0) (eC .none))))
    (sRet (eAnd (eBin gIs (eVar 1) (eC .none)) (eBin gIs (eVar 0) (eC .none))))
    sNext)
    (sSeq (sIf (bOr (asB (eIsi "bool" (eVar 1))) (asB (eIsi "bool" (eVar 0))))
    (sRet (eAnd (eIsi "bool" (eVar 1)) (eAnd (eIsi "bool" (eVar 0)) (eBin gEqX (eVar 0) (eVar 1)))))
    sNext)
    (sRet (eBin gEqX (eVar 0) (eVar 1))))))
def mf__law_same : Nat → M Slot
  | 0 => fun _ => .bad
  | n + 1 => fnP [] 2 3 (b__law_same (mf__law_same n))
def m__law_same : M Slot := mf__law_same 6
def b__law_bag : M Flw := (sRetO (oLst (eCons (eCall gMax (eCons (eC (.int 0)) (eCons (eBin gSub (eVar 0) (eBin gPow (eC (.int 10)) (eC (.int 18)))) eNil))) (eCons (eBin gAdd (eBin gMod (eVar 0) (eC (.int 162259276829213363391578010288127))) (eBin gMul (eC (.int 6469)) (eBin gAdd (eVar 1) (eC (.int 1))))) (eCons (eC (.int 0)) eNil)))))
def m__law_bag : M Slot := fnP [] 2 2 b__law_bag
def b__law_day : M Flw := (sRet (eBin gIx (eBin gIx (eVar 0) (eCall gMax (eCons (eVar 1) (eCons (eVar 2) eNil)))) (eCall gMin (eCons (eVar 1) (eCons (eVar 2) eNil)))))
def m__law_day : M Slot := fnP [] 3 3 b__law_day
def b__law_all : M Flw := (sSeq (sSet 2 (ofO (oLst (eCons (eTup (eCons (eTup eNil) eNil)) eNil))))
    (sSeq (sFor (iOpt rng2 (eCons (eC (.int 1)) (eCons (eVar 0) eNil))) (.nm 3)
    (sSeq (sSetO 4 oDN)
    (sSeq (sFor (iSeq (eVar 2)) (.nm 5)
    (sFor (iOpt rng1 (eCons (eVar 3) eNil)) (.nm 6)
    (sFor (iOpt rng1 (eCons (eBin gAdd (eVar 1) (eC (.int 1))) eNil)) (.nm 7)
    (sSeq (sSetO 8 (oLst eNil))
    (sSeq (sFor (iOpt rng1 (eCons (eVar 3) eNil)) (.nm 9)
    (sApp 8 (eIf (asB (eBin gEqX (eVar 9) (eVar 6))) (eVar 7) (eCall gMin (eCons (eVar 7) (eCons (ofR (eCallF m__law_day (eCons (aFz (eVar 5)) (eCons (aFz (eVar 6)) (eCons (aFz (eVar 9)) eNil))))) eNil))))))
    (sSetN 4 (eC (.bool true)) (eBin gAdd (eVar 5) (eTup (eCons (eCall gTuple (eCons (eVar 8) eNil)) eNil)))))))))
    (sSet 2 (eSortN 4)))))
    (sRet (eVar 2))))
def m__law_all : M Slot := fnP [] 2 10 b__law_all
def b_is_row : M Flw := (sRet (eAnd (eIsi "tuple" (eVar 0)) (eAnd (eBin gEqX (eCall gLen (eCons (eVar 0) eNil)) (eVar 1)) (eCall gAll (eCons (ofO (oComp [2] (iSeq (eVar 0)) (.nm 2) tYesM (ofR (eCallF m_is_integer (eCons (aFz (eVar 2)) (eCons (aFz (eC (.int 0))) (eCons (aFz (eC .none)) eNil))))))) eNil)))))
def m_is_row : M Slot := fnP [] 2 3 b_is_row
def b_is_table : M Flw := (sSeq (sIf (bOr (bNot (asB (eIsi "tuple" (eVar 0)))) (asB (eBin gEqX (eVar 0) (eTup eNil))))
    (sRet (eC (.bool false)))
    sNext)
    (sRet (eCall gAll (eCons (ofO (oComp [1, 2] (iOpt enumD (eCons (eVar 0) eNil)) (.tp [(.nm 1), (.nm 2)]) tYesM (ofR (eCallF m_is_row (eCons (aFz (eVar 2)) (eCons (aFz (eVar 1)) eNil)))))) eNil))))
def m_is_table : M Slot := fnP [] 1 3 b_is_table
def b_bad_in : M Flw := (sSeq (sFor (iOpt rng1 (eCons (eCall gLen (eCons (eVar 0) eNil)) eNil)) (.nm 1)
    (sFor (iOpt rng2 (eCons (eBin gAdd (eVar 1) (eC (.int 1))) (eCons (eCall gLen (eCons (eVar 0) eNil)) eNil))) (.nm 2)
    (sFor (iOpt rng2 (eCons (eBin gAdd (eVar 2) (eC (.int 1))) (eCons (eCall gLen (eCons (eVar 0) eNil)) eNil))) (.nm 3)
    (sSeq (sSet 4 (eCall gSortI (eCons (ofO (oLst (eCons (eBin gIx (eBin gIx (eVar 0) (eVar 2)) (eVar 1)) (eCons (eBin gIx (eBin gIx (eVar 0) (eVar 3)) (eVar 1)) (eCons (eBin gIx (eBin gIx (eVar 0) (eVar 3)) (eVar 2)) eNil))))) eNil)))
    (sIf (asB (eBin gNeX (eBin gIx (eVar 4) (eC (.int 0))) (eBin gIx (eVar 4) (eC (.int 1)))))
    (sRet (eTup (eCons (eVar 1) (eCons (eVar 2) (eCons (eVar 3) eNil)))))
    sNext)))))
    (sRet (eC .none)))
def m_bad_in : M Slot := fnP [] 1 5 b_bad_in
def b_is_history : M Flw := (sRet (eAnd (ofR (eCallF m_is_table (eCons (aFz (eVar 0)) eNil))) (eBin gIs (ofR (eCallF m_bad_in (eCons (aFz (eVar 0)) eNil))) (eC .none))))
def m_is_history : M Slot := fnP [] 1 1 b_is_history
def b_check_history : M Flw := (sIf (bNot (asB (ofR (eCallF m_is_history (eCons (aFz (eVar 0)) eNil)))))
    M.fail
    sNext)
def m_check_history : M Slot := fnP [] 1 1 b_check_history
def b_is_kept : M Flw := (sSeq (sAsgG (.tp [(.nm 2), (.nm 3), (.nm 4), (.nm 5)]) (eVar 1))
    (sSeq (sSet 6 (ofR (eCallF m_day_in (eCons (aFz (eVar 0)) (eCons (aFz (eVar 2)) (eCons (aFz (eVar 3)) eNil))))))
    (sRet (eAnd (eBin gLe (eVar 4) (eVar 6)) (eOr (eBin gIs (eVar 5) (eC .none)) (eBin gLe (eVar 6) (eVar 5)))))))
def m_is_kept : M Slot := fnP [] 2 7 b_is_kept
def b_keeps : M Flw := (sSeq (sDrop (ofR (eCallF m_check_history (eCons (aFz (eVar 0)) eNil))))
    (sSeq (sDrop (ofR (eCallF m_check_told (eCons (aFz (eCall gLen (eCons (eVar 0) eNil))) (eCons (aFz (eVar 1)) eNil)))))
    (sRet (eCall gAll (eCons (ofO (oComp [2] (iSeq (eVar 1)) (.nm 2) tYesM (ofR (eCallF m_is_kept (eCons (aFz (eVar 0)) (eCons (aFz (eVar 2)) eNil)))))) eNil)))))
def m_keeps : M Slot := fnP [] 2 3 b_keeps
def b__law_take : M Flw := (sSeq (sIf (asB (eBin gGt (eIxP 0 (eC (.int 0))) (eC (.int 1))))
    (sSeq (sSet 2 (eBin gMod (eIxP 0 (eC (.int 0))) (eVar 1)))
    (sSeq (sSetIx 0 (eBin gFdiv (eIxP 0 (eC (.int 0))) (eVar 1)) (eC (.int 0)))
    (sRet (eVar 2))))
    sNext)
    (sSeq (sSetIx 0 (eBin gAdd (eIxP 0 (eC (.int 2))) (eC (.int 1))) (eC (.int 2)))
    (sSeq (sSet 3 (eBin gMod (eBin gPow (eBin gAdd (eIxP 0 (eC (.int 1))) (eBin gMul (eC (.int 1300223)) (eIxP 0 (eC (.int 2))))) (eC (.int 3))) (eC (.int 162259276829213363391578010288127))))
    (sSeq (sSet 3 (eBin gMod (eBin gPow (eBin gAdd (eVar 3) (eBin gMul (eC (.int 15486253)) (eIxP 0 (eC (.int 2))))) (eC (.int 5))) (eC (.int 618970019642690137449562111))))
    (sRet (eBin gMod (eBin gFdiv (eVar 3) (eC (.int 1048576))) (eVar 1)))))))
def m__law_take : M Slot := fnP [0] 2 4 b__law_take
def b__law_holds : M Flw := (sSeq (sSet 2 (ofR (eCallF m__law_day (eCons (aFz (eVar 0)) (eCons (aFz (eBin gIx (eVar 1) (eC (.int 0)))) (eCons (aFz (eBin gIx (eVar 1) (eC (.int 1)))) eNil))))))
    (sRet (eAnd (eBin gLe (eBin gIx (eVar 1) (eC (.int 2))) (eVar 2)) (eOr (eBin gIs (eBin gIx (eVar 1) (eC (.int 3))) (eC .none)) (eBin gLe (eVar 2) (eBin gIx (eVar 1) (eC (.int 3))))))))
def m__law_holds : M Slot := fnP [] 2 3 b__law_holds
def b__law_keeping : M Flw := (sSeq (sSetO 2 (oLst eNil))
    (sSeq (sFor (iSeq (eVar 0)) (.nm 3)
    (sIf (asB (eBin gEqX (ofO (oComp [4] (iSeq (eVar 1)) (.nm 4) (bNot (asB (ofR (eCallF m__law_holds (eCons (aFz (eVar 3)) (eCons (aFz (eVar 4)) eNil)))))) (eVar 4))) (ofO (oLst eNil))))
    (sApp 2 (eVar 3))
    sNext))
    (sRetV 2)))
def m__law_keeping : M Slot := fnP [] 2 5 b__law_keeping
def b__law_least : M Flw := (sSeq (sSetO 1 (oLst eNil))
    (sSeq (sFor (iOpt rng1 (eCons (eCall gLen (eCons (eBin gIx (eVar 0) (eC (.int 0))) eNil)) eNil)) (.nm 2)
    (sApp 1 (eCall gTuple (eCons (ofO (oComp [3] (iOpt rng1 (eCons (eVar 2) eNil)) (.nm 3) tYesM (eCall gMin (eCons (ofO (oComp [4] (iSeq (eVar 0)) (.nm 4) tYesM (eBin gIx (eBin gIx (eVar 4) (eVar 2)) (eVar 3)))) eNil)))) eNil))))
    (sRet (eCall gTuple (eCons (eVar 1) eNil)))))
def m__law_least : M Slot := fnP [] 1 5 b__law_least
def b__law_pair : M Flw := (sSeq (sSet 2 (ofR (eCallF m__law_take (aSlot 0 (eCons (aFz (eVar 1)) eNil)))))
    (sRet (eTup (eCons (eVar 2) (eCons (eBin gMod (eBin gAdd (eBin gAdd (eVar 2) (eC (.int 1))) (ofR (eCallF m__law_take (aSlot 0 (eCons (aFz (eBin gSub (eVar 1) (eC (.int 1)))) eNil))))) (eVar 1)) eNil)))))
def m__law_pair : M Slot := fnP [0] 2 3 b__law_pair
def b__law_wild : M Flw := (sSeq (sSetO 4 (oLst eNil))
    (sSeq (sFor (iOpt rng1 (eCons (eVar 3) eNil)) (.nm 5)
    (sSeq (sAsgG (.tp [(.nm 6), (.nm 7)]) (ofR (eCallF m__law_pair (aSlot 0 (eCons (aFz (eVar 1)) eNil)))))
    (sSeq (sSet 8 (eBin gIx (ofO (oLst (eCons (eC (.int 0)) (eCons (ofR (eCallF m__law_take (aSlot 0 (eCons (aFz (eBin gAdd (eVar 2) (eC (.int 1)))) eNil)))) eNil)))) (ofR (eCallF m__law_take (aSlot 0 (eCons (aFz (eC (.int 2))) eNil))))))
    (sSeq (sSet 9 (eBin gIx (ofO (oLst (eCons (eC .none) (eCons (eVar 8) (eCons (eBin gAdd (eVar 8) (ofR (eCallF m__law_take (aSlot 0 (eCons (aFz (eBin gSub (eBin gAdd (eVar 2) (eC (.int 1))) (eVar 8))) eNil))))) eNil))))) (ofR (eCallF m__law_take (aSlot 0 (eCons (aFz (eC (.int 3))) eNil))))))
    (sApp 4 (eTup (eCons (eVar 6) (eCons (eVar 7) (eCons (eVar 8) (eCons (eVar 9) eNil))))))))))
    (sRet (eCall gTuple (eCons (eVar 4) eNil)))))
def m__law_wild : M Slot := fnP [0] 4 10 b__law_wild
def b__law_tree : M Flw := (sSeq (sParOO 3 4 (oLst (eCons (eTup eNil) eNil)) (oLst (eCons (eC (.int 0)) (eCons (eVar 2) (eCons (ofR (eCallF m__law_take (aSlot 0 (eCons (aFz (eBin gAdd (eVar 2) (eC (.int 1)))) eNil)))) eNil)))))
    (sSeq (sFor (iOpt rng2 (eCons (eC (.int 1)) (eCons (eVar 1) eNil))) (.nm 5)
    (sSeq (sPar 6 7 (eCons (ofR (eCallF m__law_take (aSlot 0 (eCons (aFz (eVar 5)) eNil)))) (eCons (ofR (eCallF m__law_take (aSlot 0 (eCons (aFz (eBin gAdd (eVar 2) (eC (.int 1)))) eNil)))) eNil)))
    (sSeq (sSet 7 (eBin gIx (ofO (oLst (eCons (eVar 7) (eCons (eIxP 4 (ofR (eCallF m__law_take (aSlot 0 (eCons (aFz (eLenP 4)) eNil))))) eNil)))) (ofR (eCallF m__law_take (aSlot 0 (eCons (aFz (eC (.int 2))) eNil))))))
    (sSeq (sApp 4 (eVar 7))
    (sSeq (sSetO 8 (oLst eNil))
    (sSeq (sFor (iOpt rng1 (eCons (eVar 5) eNil)) (.nm 9)
    (sApp 8 (eIf (asB (eBin gEqX (eVar 9) (eVar 6))) (eVar 7) (eCall gMin (eCons (eVar 7) (eCons (eBin gIx (eIxP 3 (eCall gMax (eCons (eVar 6) (eCons (eVar 9) eNil)))) (eCall gMin (eCons (eVar 6) (eCons (eVar 9) eNil)))) eNil))))))
    (sApp 3 (eCall gTuple (eCons (eVar 8) eNil)))))))))
    (sRet (eCall gTuple (eCons (eVar 3) eNil)))))
def m__law_tree : M Slot := fnP [0] 3 10 b__law_tree
def b__law_true : M Flw := (sSeq (sSetO 4 (oLst eNil))
    (sSeq (sFor (iOpt rng1 (eCons (eVar 3) eNil)) (.nm 5)
    (sSeq (sAsgG (.tp [(.nm 6), (.nm 7)]) (ofR (eCallF m__law_pair (aSlot 0 (eCons (aFz (eCall gLen (eCons (eVar 1) eNil))) eNil)))))
    (sSeq (sSet 8 (eBin gIx (eBin gIx (eVar 1) (eCall gMax (eCons (eVar 6) (eCons (eVar 7) eNil)))) (eCall gMin (eCons (eVar 6) (eCons (eVar 7) eNil)))))
    (sSeq (sSet 9 (eBin gIx (ofO (oLst (eCons (eC (.int 0)) (eCons (eVar 8) (eCons (ofR (eCallF m__law_take (aSlot 0 (eCons (aFz (eBin gAdd (eVar 8) (eC (.int 1)))) eNil)))) eNil))))) (ofR (eCallF m__law_take (aSlot 0 (eCons (aFz (eC (.int 3))) eNil))))))
    (sSeq (sSet 10 (eBin gIx (ofO (oLst (eCons (eC .none) (eCons (eVar 8) (eCons (eBin gAdd (eVar 8) (ofR (eCallF m__law_take (aSlot 0 (eCons (aFz (eBin gAdd (eVar 2) (eC (.int 2)))) eNil))))) eNil))))) (ofR (eCallF m__law_take (aSlot 0 (eCons (aFz (eC (.int 3))) eNil))))))
    (sApp 4 (eTup (eCons (eVar 6) (eCons (eVar 7) (eCons (eVar 9) (eCons (eVar 10) eNil)))))))))))
    (sRet (eCall gTuple (eCons (eVar 4) eNil)))))
def m__law_true : M Slot := fnP [0] 4 11 b__law_true
def b__law_right : M Flw := (sSeq (sSet 3 (ofR (eCallF m__law_wild (aSlot 0 (eCons (aFz (eVar 2)) (eCons (aFz (eC (.int 3))) (eCons (aFz (ofR (eCallF m__law_take (aSlot 0 (eCons (aFz (eC (.int 7))) eNil))))) eNil)))))))
    (sSeq (sIf (asB (eBin gEqX (ofR (eCallF m__law_take (aSlot 0 (eCons (aFz (eC (.int 3))) eNil)))) (eC (.int 0))))
    (sSet 3 (ofR (eCallF m__law_true (aSlot 0 (eCons (aFz (ofR (eCallF m__law_tree (aSlot 0 (eCons (aFz (eVar 2)) (eCons (aFz (eC (.int 3))) eNil)))))) (eCons (aFz (eC (.int 0))) (eCons (aFz (ofR (eCallF m__law_take (aSlot 0 (eCons (aFz (eC (.int 7))) eNil))))) eNil)))))))
    sNext)
    (sSeq (sSet 4 (ofR (eCallF m__law_keeping (eCons (aFz (eVar 1)) (eCons (aFz (eVar 3)) eNil)))))
    (sSeq (sSet 5 (eBin gNeX (eVar 4) (ofO (oLst eNil))))
    (sSeq (sSet 6 (ofO (oLst (eCons (ofR (eCallF m_is_possible (eCons (aFz (eVar 2)) (eCons (aFz (eVar 3)) eNil)))) (eCons (ofR (eCallF m_is_possible (mPick [1, 0] (eCons (aFz (eVar 3)) (eCons (aFz (eVar 2)) eNil))))) eNil)))))
    (sSeq (sIf (bOr (bNot (asB (ofR (eCallF m__law_same (eCons (aFz (eVar 6)) (eCons (aFz (ofO (oLst (eCons (eVar 5) (eCons (eVar 5) eNil))))) eNil)))))) (asB (eBin gNeX (eBin gIs (ofR (eCallF m_conflict (mPick [0, 1] (eCons (aFz (eVar 2)) (eCons (aFz (eVar 3)) eNil))))) (eC .none)) (eVar 5))))
    (sRet (eC (.bool false)))
    sNext)
    (sSeq (sFor (iSeq (ofO (oLst (eCons (eBin gIx (eVar 1) (ofR (eCallF m__law_take (aSlot 0 (eCons (aFz (eCall gLen (eCons (eVar 1) eNil))) eNil))))) (eCons (eIf (asB (eVar 5)) (eBin gIx (eVar 4) (eC (.int 0))) (eBin gIx (eVar 1) (eC (.int 0)))) eNil))))) (.nm 7)
    (sIf (bNot (asB (ofR (eCallF m__law_same (eCons (aFz (ofO (oLst (eCons (ofR (eCallF m_keeps (eCons (aFz (eVar 7)) (eCons (aFz (eVar 3)) eNil)))) (eCons (ofR (eCallF m_keeps (mPick [1, 0] (eCons (aFz (eVar 3)) (eCons (aFz (eVar 7)) eNil))))) eNil))))) (eCons (aFz (eBin gMul (ofO (oLst (eCons (eBin gIn (eVar 7) (eVar 4)) eNil))) (eC (.int 2)))) eNil))))))
    (sRet (eC (.bool false)))
    sNext))
    (sSeq (sIf (bNot (asB (eVar 5)))
    (sRet (eC (.bool true)))
    sNext)
    (sSeq (sSet 8 (ofR (eCallF m__law_least (eCons (aFz (eVar 4)) eNil))))
    (sRet (ofR (eCallF m__law_same (eCons (aFz (ofO (oLst (eCons (ofR (eCallF m_earliest (eCons (aFz (eVar 2)) (eCons (aFz (eVar 3)) eNil)))) (eCons (ofR (eCallF m_earliest (mPick [1, 0] (eCons (aFz (eVar 3)) (eCons (aFz (eVar 2)) eNil))))) eNil))))) (eCons (aFz (ofO (oLst (eCons (eVar 8) (eCons (eVar 8) eNil))))) eNil))))))))))))))
def m__law_right : M Slot := fnP [0] 3 9 b__law_right
def b_law : M Flw := (sSeq (sSet 1 (ofO (oLst (eCons (eC .none) (eCons (eC .none) (eCons (ofR (eCallF m__law_all (eCons (aFz (eC (.int 2))) (eCons (aFz (eC (.int 3))) eNil)))) (eCons (ofR (eCallF m__law_all (eCons (aFz (eC (.int 3))) (eCons (aFz (eC (.int 3))) eNil)))) (eCons (ofR (eCallF m__law_all (eCons (aFz (eC (.int 4))) (eCons (aFz (eC (.int 3))) eNil)))) eNil))))))))
    (sSeq (sFor (iOpt rng1 (eCons (eCall gMax (eCons (eC (.int 1)) (eCons (eCall gMin (eCons (eC (.int 4)) (eCons (eCall gLen (eCons (eVar 0) eNil)) eNil))) eNil))) eNil)) (.nm 2)
    (sSeq (sSetO 3 (ownR (eCallF m__law_bag (eCons (aFz (ofR (eCallF m__law_cell_at (eCons (aFz (eVar 0)) (eCons (aFz (eVar 2)) eNil))))) (eCons (aFz (eVar 2)) eNil)))))
    (sFor (iSeq (ofO (oLst (eCons (eC (.int 2)) (eCons (eC (.int 3)) (eCons (eC (.int 3)) (eCons (eC (.int 3)) (eCons (eC (.int 4)) (eCons (eC (.int 4)) eNil))))))))) (.nm 4)
    (sFor (iOpt rng1 (eCons (eC (.int 4)) eNil)) (.nm 5)
    (sIf (bNot (asB (ofR (eCallF m__law_right (aSlot 3 (eCons (aFz (eBin gIx (eVar 1) (eVar 4))) (eCons (aFz (eVar 4)) eNil)))))))
    (sRet (eC (.bool false)))
    sNext)))))
    (sSeq (sSet 6 (ofO (oLst (eCons (ofR (eCallF m_is_possible (eCons (aFz (eC (.int 1))) (eCons (aFz (eTup eNil)) eNil)))) (eCons (ofR (eCallF m_earliest (eCons (aFz (eC (.int 1))) (eCons (aFz (eTup eNil)) eNil)))) (eCons (ofR (eCallF m_earliest (eCons (aFz (eC (.int 3))) (eCons (aFz (eTup (eCons (eTup (eCons (eC (.int 0)) (eCons (eC (.int 1)) (eCons (eC (.int 5)) (eCons (eC .none) eNil))))) (eCons (eTup (eCons (eC (.int 0)) (eCons (eC (.int 2)) (eCons (eC (.int 0)) (eCons (eC (.int 3)) eNil))))) eNil)))) eNil)))) (eCons (ofR (eCallF m_conflict (eCons (aFz (eC (.int 1))) (eCons (aFz (eTup eNil)) eNil)))) eNil)))))))
    (sRet (ofR (eCallF m__law_same (eCons (aFz (eVar 6)) (eCons (aFz (ofO (oLst (eCons (eC (.bool true)) (eCons (eTup (eCons (eTup eNil) eNil)) (eCons (eTup (eCons (eTup eNil) (eCons (eTup (eCons (eC (.int 5)) eNil)) (eCons (eTup (eCons (eC (.int 0)) (eCons (eC (.int 0)) eNil))) eNil)))) (eCons (eC .none) eNil))))))) eNil))))))))
def m_law : M Slot := fnP [] 1 7 b_law
end
/-! ### what the top has written -/
structure Txt (K : PySem.W.Frag) (mg : Str → Option Value) where
  a_day_in : Addr
  fd_day_in : FuncData
  F_day_in : Fun K "day_in" "day_in" s_day_in a_day_in fd_day_in
  D_day_in : Def K mg "day_in" a_day_in fd_day_in ["table", "one", "other"]
  a_widened : Addr
  fd_widened : FuncData
  F_widened : Fun K "widened" "widened" s_widened a_widened fd_widened
  D_widened : Def K mg "widened" a_widened fd_widened ["days", "middle"]
  a_closed : Addr
  fd_closed : FuncData
  F_closed : Fun K "closed" "closed" s_closed a_closed fd_closed
  D_closed : Def K mg "closed" a_closed fd_closed ["lows"]
  a_low_of : Addr
  fd_low_of : FuncData
  F_low_of : Fun K "low_of" "low_of" s_low_of a_low_of fd_low_of
  D_low_of : Def K mg "low_of" a_low_of fd_low_of ["told", "i", "j"]
  a_lows_of : Addr
  fd_lows_of : FuncData
  F_lows_of : Fun K "lows_of" "lows_of" s_lows_of a_lows_of fd_lows_of
  D_lows_of : Def K mg "lows_of" a_lows_of fd_lows_of ["items", "told"]
  a_is_broken : Addr
  fd_is_broken : FuncData
  F_is_broken : Fun K "is_broken" "is_broken" s_is_broken a_is_broken fd_is_broken
  D_is_broken : Def K mg "is_broken" a_is_broken fd_is_broken ["bound", "days"]
  a_broken_index : Addr
  fd_broken_index : FuncData
  F_broken_index : Fun K "broken_index" "broken_index" s_broken_index a_broken_index fd_broken_index
  D_broken_index : Def K mg "broken_index" a_broken_index fd_broken_index ["told", "days"]
  a_is_integer : Addr
  fd_is_integer : FuncData
  F_is_integer : Fun K "is_integer" "is_integer" s_is_integer a_is_integer fd_is_integer
  D_is_integer : Def K mg "is_integer" a_is_integer fd_is_integer ["value", "low", "high"]
  a_check_number : Addr
  fd_check_number : FuncData
  F_check_number : Fun K "check_number" "check_number" s_check_number a_check_number fd_check_number
  D_check_number : Def K mg "check_number" a_check_number fd_check_number ["number"]
  a_is_bound : Addr
  fd_is_bound : FuncData
  F_is_bound : Fun K "is_bound" "is_bound" s_is_bound a_is_bound fd_is_bound
  D_is_bound : Def K mg "is_bound" a_is_bound fd_is_bound ["items", "value"]
  a_check_told : Addr
  fd_check_told : FuncData
  F_check_told : Fun K "check_told" "check_told" s_check_told a_check_told fd_check_told
  D_check_told : Def K mg "check_told" a_check_told fd_check_told ["items", "told"]
  a_check_both : Addr
  fd_check_both : FuncData
  F_check_both : Fun K "check_both" "check_both" s_check_both a_check_both fd_check_both
  D_check_both : Def K mg "check_both" a_check_both fd_check_both ["items", "told"]
  a_is_possible : Addr
  fd_is_possible : FuncData
  F_is_possible : Fun K "is_possible" "is_possible" s_is_possible a_is_possible fd_is_possible
  D_is_possible : Def K mg "is_possible" a_is_possible fd_is_possible ["items", "told"]
  a_chain_above : Addr
  fd_chain_above : FuncData
  F_chain_above : Fun K "chain_above" "chain_above" s_chain_above a_chain_above fd_chain_above
  D_chain_above : Def K mg "chain_above" a_chain_above fd_chain_above ["lows", "one", "other", "day"]
  a_conflict_in : Addr
  fd_conflict_in : FuncData
  F_conflict_in : Fun K "conflict_in" "conflict_in" s_conflict_in a_conflict_in fd_conflict_in
  D_conflict_in : Def K mg "conflict_in" a_conflict_in fd_conflict_in ["items", "told"]
  a_conflict : Addr
  fd_conflict : FuncData
  F_conflict : Fun K "conflict" "conflict" s_conflict a_conflict fd_conflict
  D_conflict : Def K mg "conflict" a_conflict fd_conflict ["items", "told"]
  a_possible_days : Addr
  fd_possible_days : FuncData
  F_possible_days : Fun K "possible_days" "possible_days" s_possible_days a_possible_days fd_possible_days
  D_possible_days : Def K mg "possible_days" a_possible_days fd_possible_days ["items", "told"]
  a_earliest : Addr
  fd_earliest : FuncData
  F_earliest : Fun K "earliest" "earliest" s_earliest a_earliest fd_earliest
  D_earliest : Def K mg "earliest" a_earliest fd_earliest ["items", "told"]
  a__law_cell_at : Addr
  fd__law_cell_at : FuncData
  F__law_cell_at : Fun K "_law_cell_at" "_law_cell_at" s__law_cell_at a__law_cell_at fd__law_cell_at
  D__law_cell_at : Def K mg "_law_cell_at" a__law_cell_at fd__law_cell_at ["script", "k"]
  a__law_same : Addr
  fd__law_same : FuncData
  F__law_same : Fun K "_law_same" "_law_same" s__law_same a__law_same fd__law_same
  D__law_same : Def K mg "_law_same" a__law_same fd__law_same ["found", "due"]
  a__law_bag : Addr
  fd__law_bag : FuncData
  F__law_bag : Fun K "_law_bag" "_law_bag" s__law_bag a__law_bag fd__law_bag
  D__law_bag : Def K mg "_law_bag" a__law_bag fd__law_bag ["cell", "k"]
  a__law_day : Addr
  fd__law_day : FuncData
  F__law_day : Fun K "_law_day" "_law_day" s__law_day a__law_day fd__law_day
  D__law_day : Def K mg "_law_day" a__law_day fd__law_day ["days", "i", "j"]
  a__law_all : Addr
  fd__law_all : FuncData
  F__law_all : Fun K "_law_all" "_law_all" s__law_all a__law_all fd__law_all
  D__law_all : Def K mg "_law_all" a__law_all fd__law_all ["many", "last"]
  a_is_row : Addr
  fd_is_row : FuncData
  F_is_row : Fun K "is_row" "is_row" s_is_row a_is_row fd_is_row
  D_is_row : Def K mg "is_row" a_is_row fd_is_row ["value", "size"]
  a_is_table : Addr
  fd_is_table : FuncData
  F_is_table : Fun K "is_table" "is_table" s_is_table a_is_table fd_is_table
  D_is_table : Def K mg "is_table" a_is_table fd_is_table ["value"]
  a_bad_in : Addr
  fd_bad_in : FuncData
  F_bad_in : Fun K "bad_in" "bad_in" s_bad_in a_bad_in fd_bad_in
  D_bad_in : Def K mg "bad_in" a_bad_in fd_bad_in ["table"]
  a_is_history : Addr
  fd_is_history : FuncData
  F_is_history : Fun K "is_history" "is_history" s_is_history a_is_history fd_is_history
  D_is_history : Def K mg "is_history" a_is_history fd_is_history ["value"]
  a_check_history : Addr
  fd_check_history : FuncData
  F_check_history : Fun K "check_history" "check_history" s_check_history a_check_history fd_check_history
  D_check_history : Def K mg "check_history" a_check_history fd_check_history ["history"]
  a_is_kept : Addr
  fd_is_kept : FuncData
  F_is_kept : Fun K "is_kept" "is_kept" s_is_kept a_is_kept fd_is_kept
  D_is_kept : Def K mg "is_kept" a_is_kept fd_is_kept ["history", "bound"]
  a_keeps : Addr
  fd_keeps : FuncData
  F_keeps : Fun K "keeps" "keeps" s_keeps a_keeps fd_keeps
  D_keeps : Def K mg "keeps" a_keeps fd_keeps ["history", "told"]
  a__law_take : Addr
  fd__law_take : FuncData
  F__law_take : Fun K "_law_take" "_law_take" s__law_take a__law_take fd__law_take
  D__law_take : Def K mg "_law_take" a__law_take fd__law_take ["bag", "bound"]
  a__law_holds : Addr
  fd__law_holds : FuncData
  F__law_holds : Fun K "_law_holds" "_law_holds" s__law_holds a__law_holds fd__law_holds
  D__law_holds : Def K mg "_law_holds" a__law_holds fd__law_holds ["days", "bound"]
  a__law_keeping : Addr
  fd__law_keeping : FuncData
  F__law_keeping : Fun K "_law_keeping" "_law_keeping" s__law_keeping a__law_keeping fd__law_keeping
  D__law_keeping : Def K mg "_law_keeping" a__law_keeping fd__law_keeping ["histories_here", "told_here"]
  a__law_least : Addr
  fd__law_least : FuncData
  F__law_least : Fun K "_law_least" "_law_least" s__law_least a__law_least fd__law_least
  D__law_least : Def K mg "_law_least" a__law_least fd__law_least ["histories_here"]
  a__law_pair : Addr
  fd__law_pair : FuncData
  F__law_pair : Fun K "_law_pair" "_law_pair" s__law_pair a__law_pair fd__law_pair
  D__law_pair : Def K mg "_law_pair" a__law_pair fd__law_pair ["bag", "many"]
  a__law_wild : Addr
  fd__law_wild : FuncData
  F__law_wild : Fun K "_law_wild" "_law_wild" s__law_wild a__law_wild fd__law_wild
  D__law_wild : Def K mg "_law_wild" a__law_wild fd__law_wild ["bag", "many", "last", "size"]
  a__law_tree : Addr
  fd__law_tree : FuncData
  F__law_tree : Fun K "_law_tree" "_law_tree" s__law_tree a__law_tree fd__law_tree
  D__law_tree : Def K mg "_law_tree" a__law_tree fd__law_tree ["bag", "many", "last"]
  a__law_true : Addr
  fd__law_true : FuncData
  F__law_true : Fun K "_law_true" "_law_true" s__law_true a__law_true fd__law_true
  D__law_true : Def K mg "_law_true" a__law_true fd__law_true ["bag", "days", "last", "size"]
  a__law_right : Addr
  fd__law_right : FuncData
  F__law_right : Fun K "_law_right" "_law_right" s__law_right a__law_right fd__law_right
  D__law_right : Def K mg "_law_right" a__law_right fd__law_right ["bag", "every", "many"]
  a_law : Addr
  fd_law : FuncData
  F_law : Fun K "law" "law" s_law a_law fd_law
  D_law : Def K mg "law" a_law fd_law ["script"]
  kb_is_possible_0_told_items : KB fd_is_possible ["items", "told"] ["told", "items"] 0 [1, 0]
  kb_conflict_0_items_told : KB fd_conflict ["items", "told"] ["items", "told"] 0 [0, 1]
  kb_keeps_0_told_history : KB fd_keeps ["history", "told"] ["told", "history"] 0 [1, 0]
  kb_earliest_0_told_items : KB fd_earliest ["items", "told"] ["told", "items"] 0 [1, 0]
  n_all : mg "all" = none
  n_bool : mg "bool" = none
  n_enumerate : mg "enumerate" = none
  n_int : mg "int" = none
  n_isinstance : mg "isinstance" = none
  n_len : mg "len" = none
  n_list : mg "list" = none
  n_max : mg "max" = none
  n_min : mg "min" = none
  n_range : mg "range" = none
  n_sorted : mg "sorted" = none
  n_tuple : mg "tuple" = none
  n_zip : mg "zip" = none
section
variable {P : Program} {w : World} {K : PySem.W.Frag} {mg : Str → Option Value} {base : Heap}
theorem ok_day_in (T : Txt K mg) : FnG P w K mg base 1 T.a_day_in T.fd_day_in ["table", "one", "other"] m_day_in := by
  unfold m_day_in
  refine fn_bodyP (k := 0) (Pr := []) (b := b_day_in) (n := 3) (NL := 3) (N := ["table", "one", "other"]) T.F_day_in sc_day_in rfl rfl fun cdv A outer s H E hr hgd => ?_
  have tk := L2N.takes_of (X := cxOf (L2N.CX P w) P w K mg base ["table", "one", "other"] "day_in" (defScope s_day_in) T.a_day_in cdv A outer s H E) rfl rfl rfl rfl
  exact (dss_one (ds_ret (de_ix ix_seq ixD_r2 (de_ix ix_seq ixD_r2 (de_var (pv 0)) (de_callB (call_maxD rfl) maxD_n rfl T.n_max (by decide +kernel) (ds_cons (de_var (pv 1)) (ds_cons (de_var (pv 2)) ds_nil))) (fun _ _ => rfl)) (de_callB (call_minD rfl) minD_n rfl T.n_min (by decide +kernel) (ds_cons (de_var (pv 1)) (ds_cons (de_var (pv 2)) ds_nil))) (fun _ _ => rfl))))
theorem ok_widened (T : Txt K mg) : FnG P w K mg base 1 T.a_widened T.fd_widened ["days", "middle"] m_widened := by
  unfold m_widened
  refine fn_bodyP (k := 0) (Pr := []) (b := b_widened) (n := 2) (NL := 6) (N := ["days", "middle", "by_middle", "row", "day", "later"]) T.F_widened sc_widened rfl rfl fun cdv A outer s H E hr hgd => ?_
  have tk := L2N.takes_of (X := cxOf (L2N.CX P w) P w K mg base ["days", "middle", "by_middle", "row", "day", "later"] "widened" (defScope s_widened) T.a_widened cdv A outer s H E) rfl rfl rfl rfl
  exact (dss_cons (ds_set (i := 2) sc_widened.nd rfl (.inr rfl) (de_ix ix_seq ixD_r2 (de_var (pv 0)) (de_var (pv 1)) (fun _ _ => rfl)) (by decide))
    (dss_one (ds_retO (do_comp rfl sc_widened.nd (di_seq (de_var (pv 0))) (own := [("row", 3)]) (by show blkC ["days", "middle", "by_middle", "row", "day", "later"] (defScope s_widened) _ _ = true; decide +kernel) (fun _ _ _ _ _ => (dg_nm (pg_name (i := 3) sc_widened.nd rfl (by first | exact .inl rfl | exact .inr rfl)))) (fun _ _ _ _ _ => dts_nil) (fun _ _ _ _ _ => (de_own (do_comp rfl sc_widened.nd (di_zip rfl T.n_zip (ds_cons (de_var (pv 3)) (ds_cons (de_var (pv 2)) ds_nil))) (own := [("day", 4), ("later", 5)]) (by rfl) (fun _ _ _ _ _ => (dg_tp rfl (dgs_cons (dg_nm (pg_name (i := 4) sc_widened.nd rfl (by first | exact .inl rfl | exact .inr rfl))) (dgs_cons (dg_nm (pg_name (i := 5) sc_widened.nd rfl (by first | exact .inl rfl | exact .inr rfl))) dgs_nil)))) (fun _ _ _ _ _ => dts_nil) (fun _ _ _ _ _ => (de_callB (call_maxD rfl) maxD_n rfl T.n_max (by decide +kernel) (ds_cons (de_var (pv 4)) (ds_cons (de_callB (call_minD rfl) minD_n rfl T.n_min (by decide +kernel) (ds_cons (de_ix ix_seq ixD_r2 (de_var (pv 3)) (de_var (pv 1)) (fun _ _ => rfl)) (ds_cons (de_var (pv 5)) ds_nil))) ds_nil)))) (by decide)))) (by decide)))))
theorem ok_closed (T : Txt K mg) : FnG P w K mg base 2 T.a_closed T.fd_closed ["lows"] m_closed := by
  unfold m_closed
  refine fn_bodyP (k := 1) (Pr := []) (b := b_closed) (n := 1) (NL := 10) (N := ["lows", "many", "top", "days", "middle", "i", "j", "place", "row", "day"]) T.F_closed sc_closed rfl rfl fun cdv A outer s H E hr hgd => ?_
  have tk := L2N.takes_of (X := cxOf (L2N.CX P w) P w K mg base ["lows", "many", "top", "days", "middle", "i", "j", "place", "row", "day"] "closed" (defScope s_closed) T.a_closed cdv A outer s H E) rfl rfl rfl rfl
  exact (dss_cons (ds_set (i := 1) sc_closed.nd rfl (.inr rfl) (de_callB DL.call_lenD DL.lenD_n rfl T.n_len (by decide +kernel) (ds_cons (de_var (pv 0)) ds_nil)) (by decide))
    (dss_cons (ds_set (i := 2) sc_closed.nd rfl (.inr rfl) (de_bin op_addD addD_r2 de_int (de_callB (call_maxD rfl) maxD_n rfl T.n_max (by decide +kernel) (ds_cons (de_bin op_addD addD_r2 (de_own (do_lst (ds_cons de_int ds_nil))) (de_own (do_comp2 rfl sc_closed.nd (di_seq (de_var (pv 0))) (own := [("row", 8), ("day", 9)]) (vs1 := [9]) (by show blkC ["lows", "many", "top", "days", "middle", "i", "j", "place", "row", "day"] (defScope s_closed) _ _ = true; decide +kernel) (by decide) (fun _ _ _ _ _ => (dg_nm (pg_name (i := 8) sc_closed.nd rfl (by first | exact .inl rfl | exact .inr rfl)))) (fun _ _ _ _ _ => dts_nil) (fun _ _ _ _ _ => (di_seq (de_var (pv 8)))) (fun _ _ _ _ _ => (dg_nm (pg_name (i := 9) sc_closed.nd rfl (by first | exact .inl rfl | exact .inr rfl)))) (fun _ _ _ _ _ => dts_nil) (fun _ _ _ _ _ => (de_var (pv 9))) (by decide) (by decide)))) ds_nil))) (by decide))
    (dss_cons (ds_setLc (i := 3) rfl sc_closed.nd rfl rfl (sw_true rfl rfl rfl (by decide +kernel)) (di_rng1 rfl T.n_range (ds_cons (de_var (pv 1)) ds_nil)) (own := [("i", 5)]) (by show blkC ["lows", "many", "top", "days", "middle", "i", "j", "place", "row", "day"] (defScope s_closed) _ _ = true; decide +kernel) (fun _ _ _ _ _ => (dg_nm (pg_name (i := 5) sc_closed.nd rfl (by first | exact .inl rfl | exact .inr rfl)))) (fun _ _ _ _ _ => dts_nil) (fun _ _ _ _ _ => (de_own (do_comp rfl sc_closed.nd (di_rng1 rfl T.n_range (ds_cons (de_var (pv 1)) ds_nil)) (own := [("j", 6)]) (by rfl) (fun _ _ _ _ _ => (dg_nm (pg_name (i := 6) sc_closed.nd rfl (by first | exact .inl rfl | exact .inr rfl)))) (fun _ _ _ _ _ => dts_nil) (fun _ _ _ _ _ => (de_if (dt_cmp (op_eqX hr.units) eqX_r2 (de_var (pv 5)) (de_var (pv 6)) (nomark _)) (de_var (pv 2)) (de_r (dr_call T.D_day_in (ok_day_in T) hr hgd takesF rfl (da_fz (de_var (pv 0)) (da_fz (de_var (pv 5)) (da_fz (de_var (pv 6)) da_nil))))))) (by decide)))) (by decide) (by decide))
    (dss_cons (ds_for (passes_of rfl) rfl (di_rng1 rfl T.n_range (ds_cons (de_var (pv 1)) ds_nil)) (dg_nm (pg_name (i := 4) sc_closed.nd rfl (.inl rfl)))
    (dss_one (ds_set (i := 3) sc_closed.nd rfl (.inl rfl) (de_r (dr_call T.D_widened (ok_widened T) hr hgd tk rfl (da_fz (de_var (pv 3)) (da_fz (de_var (pv 4)) da_nil)))) (by decide))) (by decide))
    (dss_one (ds_ret (de_callTy call_tuple_of tupleD_n rfl T.n_tuple (by decide +kernel) (ds_cons (de_own (do_comp rfl sc_closed.nd (di_enum rfl T.n_enumerate (ds_cons (de_var (pv 3)) ds_nil)) (own := [("place", 7), ("row", 8)]) (by show blkC ["lows", "many", "top", "days", "middle", "i", "j", "place", "row", "day"] (defScope s_closed) _ _ = true; decide +kernel) (fun _ _ _ _ _ => (dg_tp rfl (dgs_cons (dg_nm (pg_name (i := 7) sc_closed.nd rfl (by first | exact .inl rfl | exact .inr rfl))) (dgs_cons (dg_nm (pg_name (i := 8) sc_closed.nd rfl (by first | exact .inl rfl | exact .inr rfl))) dgs_nil)))) (fun _ _ _ _ _ => dts_nil) (fun _ _ _ _ _ => (de_callTy call_tuple_of tupleD_n rfl T.n_tuple (by decide +kernel) (ds_cons (de_slice (de_var (pv 8)) dp_none (dp_some (de_var (pv 7)))) ds_nil))) (by decide))) ds_nil))))))))
theorem ok_low_of (T : Txt K mg) : FnG P w K mg base 1 T.a_low_of T.fd_low_of ["told", "i", "j"] m_low_of := by
  unfold m_low_of
  refine fn_bodyP (k := 0) (Pr := []) (b := b_low_of) (n := 3) (NL := 7) (N := ["told", "i", "j", "one", "other", "low", "high"]) T.F_low_of sc_low_of rfl rfl fun cdv A outer s H E hr hgd => ?_
  have tk := L2N.takes_of (X := cxOf (L2N.CX P w) P w K mg base ["told", "i", "j", "one", "other", "low", "high"] "low_of" (defScope s_low_of) T.a_low_of cdv A outer s H E) rfl rfl rfl rfl
  exact (dss_one (ds_ret (de_callB (call_maxD rfl) maxD_n rfl T.n_max (by decide +kernel) (ds_cons (de_bin op_addD addD_r2 (de_own (do_lst (ds_cons de_int ds_nil))) (de_own (do_comp rfl sc_low_of.nd (di_seq (de_var (pv 0))) (own := [("one", 3), ("other", 4), ("low", 5), ("high", 6)]) (by show blkC ["told", "i", "j", "one", "other", "low", "high"] (defScope s_low_of) _ _ = true; decide +kernel) (fun _ _ _ _ _ => (dg_tp rfl (dgs_cons (dg_nm (pg_name (i := 3) sc_low_of.nd rfl (by first | exact .inl rfl | exact .inr rfl))) (dgs_cons (dg_nm (pg_name (i := 4) sc_low_of.nd rfl (by first | exact .inl rfl | exact .inr rfl))) (dgs_cons (dg_nm (pg_name (i := 5) sc_low_of.nd rfl (by first | exact .inl rfl | exact .inr rfl))) (dgs_cons (dg_nm (pg_name (i := 6) sc_low_of.nd rfl (by first | exact .inl rfl | exact .inr rfl))) dgs_nil)))))) (fun _ _ _ _ _ => (dts_one (dt_cmp (op_inDD (hu65 hr)) inDD_r2 (de_tup (ds_cons (de_var (pv 3)) (ds_cons (de_var (pv 4)) ds_nil))) (de_tup (ds_cons (de_tup (ds_cons (de_var (pv 1)) (ds_cons (de_var (pv 2)) ds_nil))) (ds_cons (de_tup (ds_cons (de_var (pv 2)) (ds_cons (de_var (pv 1)) ds_nil))) ds_nil))) rfl))) (fun _ _ _ _ _ => (de_var (pv 5))) (by decide)))) ds_nil))))
theorem ok_lows_of (T : Txt K mg) : FnG P w K mg base 2 T.a_lows_of T.fd_lows_of ["items", "told"] m_lows_of := by
  unfold m_lows_of
  refine fn_bodyP (k := 1) (Pr := []) (b := b_lows_of) (n := 2) (NL := 4) (N := ["items", "told", "i", "j"]) T.F_lows_of sc_lows_of rfl rfl fun cdv A outer s H E hr hgd => ?_
  have tk := L2N.takes_of (X := cxOf (L2N.CX P w) P w K mg base ["items", "told", "i", "j"] "lows_of" (defScope s_lows_of) T.a_lows_of cdv A outer s H E) rfl rfl rfl rfl
  exact (dss_one (ds_ret (de_callTy call_tuple_of tupleD_n rfl T.n_tuple (by decide +kernel) (ds_cons (de_own (do_comp rfl sc_lows_of.nd (di_rng1 rfl T.n_range (ds_cons (de_var (pv 0)) ds_nil)) (own := [("i", 2)]) (by show blkC ["items", "told", "i", "j"] (defScope s_lows_of) _ _ = true; decide +kernel) (fun _ _ _ _ _ => (dg_nm (pg_name (i := 2) sc_lows_of.nd rfl (by first | exact .inl rfl | exact .inr rfl)))) (fun _ _ _ _ _ => dts_nil) (fun _ _ _ _ _ => (de_callTy call_tuple_of tupleD_n rfl T.n_tuple (by decide +kernel) (ds_cons (de_own (do_comp rfl sc_lows_of.nd (di_rng1 rfl T.n_range (ds_cons (de_var (pv 2)) ds_nil)) (own := [("j", 3)]) (by rfl) (fun _ _ _ _ _ => (dg_nm (pg_name (i := 3) sc_lows_of.nd rfl (by first | exact .inl rfl | exact .inr rfl)))) (fun _ _ _ _ _ => dts_nil) (fun _ _ _ _ _ => (de_r (dr_call T.D_low_of (ok_low_of T) hr hgd takesF rfl (da_fz (de_var (pv 1)) (da_fz (de_var (pv 2)) (da_fz (de_var (pv 3)) da_nil)))))) (by decide))) ds_nil))) (by decide))) ds_nil))))
theorem ok_is_broken (T : Txt K mg) : FnG P w K mg base 2 T.a_is_broken T.fd_is_broken ["bound", "days"] m_is_broken := by
  unfold m_is_broken
  refine fn_bodyP (k := 1) (Pr := []) (b := b_is_broken) (n := 2) (NL := 6) (N := ["bound", "days", "one", "other", "low", "high"]) T.F_is_broken sc_is_broken rfl rfl fun cdv A outer s H E hr hgd => ?_
  have tk := L2N.takes_of (X := cxOf (L2N.CX P w) P w K mg base ["bound", "days", "one", "other", "low", "high"] "is_broken" (defScope s_is_broken) T.a_is_broken cdv A outer s H E) rfl rfl rfl rfl
  exact (dss_cons (ds_asg (de_var (pv 0)) (dg_tp rfl (dgs_cons (dg_nm (pg_name (i := 2) sc_is_broken.nd rfl (.inl rfl))) (dgs_cons (dg_nm (pg_name (i := 3) sc_is_broken.nd rfl (.inl rfl))) (dgs_cons (dg_nm (pg_name (i := 4) sc_is_broken.nd rfl (.inl rfl))) (dgs_cons (dg_nm (pg_name (i := 5) sc_is_broken.nd rfl (.inl rfl))) dgs_nil))))) (by decide))
    (dss_one (ds_ret (de_and (de_cmp op_notN isND_r2 (de_var (pv 5)) de_none (nomark _)) (de_one (de_cmp op_gt cmpD_r2 (de_r (dr_call T.D_day_in (ok_day_in T) hr hgd tk rfl (da_fz (de_var (pv 1)) (da_fz (de_var (pv 2)) (da_fz (de_var (pv 3)) da_nil))))) (de_var (pv 5)) (nomark _)))))))
theorem ok_broken_index (T : Txt K mg) : FnG P w K mg base 3 T.a_broken_index T.fd_broken_index ["told", "days"] m_broken_index := by
  unfold m_broken_index
  refine fn_bodyP (k := 2) (Pr := []) (b := b_broken_index) (n := 2) (NL := 4) (N := ["told", "days", "index", "bound"]) T.F_broken_index sc_broken_index rfl rfl fun cdv A outer s H E hr hgd => ?_
  have tk := L2N.takes_of (X := cxOf (L2N.CX P w) P w K mg base ["told", "days", "index", "bound"] "broken_index" (defScope s_broken_index) T.a_broken_index cdv A outer s H E) rfl rfl rfl rfl
  exact (dss_cons (ds_for (passes_of rfl) rfl (di_enum rfl T.n_enumerate (ds_cons (de_var (pv 0)) ds_nil)) (dg_tp rfl (dgs_cons (dg_nm (pg_name (i := 2) sc_broken_index.nd rfl (.inl rfl))) (dgs_cons (dg_nm (pg_name (i := 3) sc_broken_index.nd rfl (.inl rfl))) dgs_nil)))
    (dss_one (ds_if (dt_val (de_r (dr_call T.D_is_broken (ok_is_broken T) hr hgd tk rfl (da_fz (de_var (pv 3)) (da_fz (de_var (pv 1)) da_nil)))))
    (dss_one (ds_ret (de_var (pv 2))))
    dss_nil)) (by decide))
    (dss_one (ds_ret de_none)))
theorem ok_is_integer (T : Txt K mg) : FnG P w K mg base 1 T.a_is_integer T.fd_is_integer ["value", "low", "high"] m_is_integer := by
  unfold m_is_integer
  refine fn_bodyP (k := 0) (Pr := []) (b := b_is_integer) (n := 3) (NL := 3) (N := ["value", "low", "high"]) T.F_is_integer sc_is_integer rfl rfl fun cdv A outer s H E hr hgd => ?_
  have tk := L2N.takes_of (X := cxOf (L2N.CX P w) P w K mg base ["value", "low", "high"] "is_integer" (defScope s_is_integer) T.a_is_integer cdv A outer s H E) rfl rfl rfl rfl
  exact (dss_cons (ds_if (dt_w (dw_or (dt_not (dt_val (de_isi rfl T.n_isinstance (de_var (pv 0)) (pe_bltn rfl T.n_int (by decide +kernel) rfl)))) (dw_or1 (dt_val (de_isi rfl T.n_isinstance (de_var (pv 0)) (pe_bltn rfl T.n_bool (by decide +kernel) rfl))))))
    (dss_one (ds_ret de_bool))
    dss_nil)
    (dss_one (ds_ret (de_and (de_cmp op_ge cmpD_r2 (de_var (pv 0)) (de_var (pv 1)) (nomark _)) (de_one (de_or (de_cmp op_isN isD_r2 (de_var (pv 2)) de_none (nomark _)) (de_one (de_cmp op_le cmpD_r2 (de_var (pv 0)) (de_var (pv 2)) (nomark _)))))))))
theorem ok_check_number (T : Txt K mg) : FnG P w K mg base 2 T.a_check_number T.fd_check_number ["number"] m_check_number := by
  unfold m_check_number
  refine fn_bodyP (k := 1) (Pr := []) (b := b_check_number) (n := 1) (NL := 1) (N := ["number"]) T.F_check_number sc_check_number rfl rfl fun cdv A outer s H E hr hgd => ?_
  have tk := L2N.takes_of (X := cxOf (L2N.CX P w) P w K mg base ["number"] "check_number" (defScope s_check_number) T.a_check_number cdv A outer s H E) rfl rfl rfl rfl
  exact (dss_one (ds_if (dt_not (dt_val (de_r (dr_call T.D_is_integer (ok_is_integer T) hr hgd tk rfl (da_fz (de_var (pv 0)) (da_fz de_int (da_fz de_none da_nil)))))))
    (dss_one ds_never)
    dss_nil))
theorem ok_is_bound (T : Txt K mg) : FnG P w K mg base 2 T.a_is_bound T.fd_is_bound ["items", "value"] m_is_bound := by
  unfold m_is_bound
  refine fn_bodyP (k := 1) (Pr := []) (b := b_is_bound) (n := 2) (NL := 7) (N := ["items", "value", "one", "other", "low", "high", "last"]) T.F_is_bound sc_is_bound rfl rfl fun cdv A outer s H E hr hgd => ?_
  have tk := L2N.takes_of (X := cxOf (L2N.CX P w) P w K mg base ["items", "value", "one", "other", "low", "high", "last"] "is_bound" (defScope s_is_bound) T.a_is_bound cdv A outer s H E) rfl rfl rfl rfl
  exact (dss_cons (ds_if (dt_w (dw_or (dt_not (dt_val (de_isi rfl T.n_isinstance (de_var (pv 1)) (pe_bltn rfl T.n_tuple (by decide +kernel) rfl)))) (dw_or1 (dt_cmp (op_neX hr.units) neX_r2 (de_callB DL.call_lenD DL.lenD_n rfl T.n_len (by decide +kernel) (ds_cons (de_var (pv 1)) ds_nil)) de_int (nomark _)))))
    (dss_one (ds_ret de_bool))
    dss_nil)
    (dss_cons (ds_asg (de_var (pv 1)) (dg_tp rfl (dgs_cons (dg_nm (pg_name (i := 2) sc_is_bound.nd rfl (.inl rfl))) (dgs_cons (dg_nm (pg_name (i := 3) sc_is_bound.nd rfl (.inl rfl))) (dgs_cons (dg_nm (pg_name (i := 4) sc_is_bound.nd rfl (.inl rfl))) (dgs_cons (dg_nm (pg_name (i := 5) sc_is_bound.nd rfl (.inl rfl))) dgs_nil))))) (by decide))
    (dss_cons (ds_set (i := 6) sc_is_bound.nd rfl (.inl rfl) (de_if (dt_cmp op_isN isD_r2 (de_var (pv 0)) de_none (nomark _)) de_none (de_bin op_subD subD_r2 (de_var (pv 0)) de_int)) (by decide))
    (dss_cons (ds_if (dt_w (dw_or (dt_not (dt_val (de_r (dr_call T.D_is_integer (ok_is_integer T) hr hgd tk rfl (da_fz (de_var (pv 2)) (da_fz de_int (da_fz (de_var (pv 6)) da_nil))))))) (dw_or (dt_not (dt_val (de_r (dr_call T.D_is_integer (ok_is_integer T) hr hgd tk rfl (da_fz (de_var (pv 3)) (da_fz de_int (da_fz (de_var (pv 6)) da_nil))))))) (dw_or1 (dt_cmp (op_eqX hr.units) eqX_r2 (de_var (pv 2)) (de_var (pv 3)) (nomark _))))))
    (dss_one (ds_ret de_bool))
    dss_nil)
    (dss_one (ds_ret (de_and (de_r (dr_call T.D_is_integer (ok_is_integer T) hr hgd tk rfl (da_fz (de_var (pv 4)) (da_fz de_int (da_fz de_none da_nil))))) (de_one (de_or (de_cmp op_isN isD_r2 (de_var (pv 5)) de_none (nomark _)) (de_one (de_r (dr_call T.D_is_integer (ok_is_integer T) hr hgd tk rfl (da_fz (de_var (pv 5)) (da_fz (de_var (pv 4)) (da_fz de_none da_nil)))))))))))))))
theorem ok_check_told (T : Txt K mg) : FnG P w K mg base 3 T.a_check_told T.fd_check_told ["items", "told"] m_check_told := by
  unfold m_check_told
  refine fn_bodyP (k := 2) (Pr := []) (b := b_check_told) (n := 2) (NL := 3) (N := ["items", "told", "bound"]) T.F_check_told sc_check_told rfl rfl fun cdv A outer s H E hr hgd => ?_
  have tk := L2N.takes_of (X := cxOf (L2N.CX P w) P w K mg base ["items", "told", "bound"] "check_told" (defScope s_check_told) T.a_check_told cdv A outer s H E) rfl rfl rfl rfl
  exact (dss_one (ds_if (dt_w (dw_or (dt_not (dt_val (de_isi rfl T.n_isinstance (de_var (pv 1)) (pe_bltn rfl T.n_tuple (by decide +kernel) rfl)))) (dw_or1 (dt_not (dt_val (de_callB (cr_all rfl) allD_n rfl T.n_all (by decide +kernel) (ds_cons (de_own (do_comp rfl sc_check_told.nd (di_seq (de_var (pv 1))) (own := [("bound", 2)]) (by show blkC ["items", "told", "bound"] (defScope s_check_told) _ _ = true; decide +kernel) (fun _ _ _ _ _ => (dg_nm (pg_name (i := 2) sc_check_told.nd rfl (by first | exact .inl rfl | exact .inr rfl)))) (fun _ _ _ _ _ => dts_nil) (fun _ _ _ _ _ => (de_r (dr_call T.D_is_bound (ok_is_bound T) hr hgd takesF rfl (da_fz (de_var (pv 0)) (da_fz (de_var (pv 2)) da_nil))))) (by decide))) ds_nil)))))))
    (dss_one ds_never)
    dss_nil))
theorem ok_check_both (T : Txt K mg) : FnG P w K mg base 4 T.a_check_both T.fd_check_both ["items", "told"] m_check_both := by
  unfold m_check_both
  refine fn_bodyP (k := 3) (Pr := []) (b := b_check_both) (n := 2) (NL := 2) (N := ["items", "told"]) T.F_check_both sc_check_both rfl rfl fun cdv A outer s H E hr hgd => ?_
  have tk := L2N.takes_of (X := cxOf (L2N.CX P w) P w K mg base ["items", "told"] "check_both" (defScope s_check_both) T.a_check_both cdv A outer s H E) rfl rfl rfl rfl
  exact (dss_cons (ds_drop (de_r (dr_call T.D_check_number ((ok_check_number T).up (by decide)) hr hgd tk rfl (da_fz (de_var (pv 0)) da_nil))))
    (dss_one (ds_drop (de_r (dr_call T.D_check_told (ok_check_told T) hr hgd tk rfl (da_fz (de_var (pv 0)) (da_fz (de_var (pv 1)) da_nil)))))))
theorem ok_is_possible (T : Txt K mg) : FnG P w K mg base 5 T.a_is_possible T.fd_is_possible ["items", "told"] m_is_possible := by
  unfold m_is_possible
  refine fn_bodyP (k := 4) (Pr := []) (b := b_is_possible) (n := 2) (NL := 2) (N := ["items", "told"]) T.F_is_possible sc_is_possible rfl rfl fun cdv A outer s H E hr hgd => ?_
  have tk := L2N.takes_of (X := cxOf (L2N.CX P w) P w K mg base ["items", "told"] "is_possible" (defScope s_is_possible) T.a_is_possible cdv A outer s H E) rfl rfl rfl rfl
  exact (dss_cons (ds_drop (de_r (dr_call T.D_check_both (ok_check_both T) hr hgd tk rfl (da_fz (de_var (pv 0)) (da_fz (de_var (pv 1)) da_nil)))))
    (dss_one (ds_ret (de_cmp op_isN isD_r2 (de_r (dr_call T.D_broken_index ((ok_broken_index T).up (by decide)) hr hgd tk rfl (da_fz (de_var (pv 1)) (da_fz (de_r (dr_call T.D_closed ((ok_closed T).up (by decide)) hr hgd tk rfl (da_fz (de_r (dr_call T.D_lows_of ((ok_lows_of T).up (by decide)) hr hgd tk rfl (da_fz (de_var (pv 0)) (da_fz (de_var (pv 1)) da_nil)))) da_nil))) da_nil)))) de_none (nomark _)))))
theorem ok_chain_above (T : Txt K mg) : FnG P w K mg base 2 T.a_chain_above T.fd_chain_above ["lows", "one", "other", "day"] m_chain_above := by
  unfold m_chain_above
  refine fn_bodyP (k := 1) (Pr := []) (b := b_chain_above) (n := 4) (NL := 9) (N := ["lows", "one", "other", "day", "chains", "seen", "longer", "chain", "item"]) T.F_chain_above sc_chain_above rfl rfl fun cdv A outer s H E hr hgd => ?_
  have tk := L2N.takes_of (X := cxOf (L2N.CX P w) P w K mg base ["lows", "one", "other", "day", "chains", "seen", "longer", "chain", "item"] "chain_above" (defScope s_chain_above) T.a_chain_above cdv A outer s H E) rfl rfl rfl rfl
  exact (dss_cons (ds_set (i := 4) sc_chain_above.nd rfl (.inl rfl) (de_own (do_lst (ds_cons (de_tup (ds_cons (de_var (pv 1)) ds_nil)) ds_nil))) (by decide))
    (dss_cons (ds_set (i := 5) sc_chain_above.nd rfl (.inl rfl) (de_own (do_lst (ds_cons (de_var (pv 1)) ds_nil))) (by decide))
    (dss_cons (ds_while (fuel := 1048576) (passes_of rfl) (dt_cmp (op_neX hr.units) neX_r2 (de_var (pv 4)) (de_own (do_lst ds_nil)) (nomark _))
    (dss_cons (ds_set (i := 6) sc_chain_above.nd rfl (.inl rfl) (de_own (do_lst ds_nil)) (by decide))
    (dss_cons (ds_for (passes_of rfl) rfl (di_seq (de_var (pv 4))) (dg_nm (pg_name (i := 7) sc_chain_above.nd rfl (.inl rfl)))
    (dss_one (ds_for (passes_of rfl) rfl (di_rng1 rfl T.n_range (ds_cons (de_callB DL.call_lenD DL.lenD_n rfl T.n_len (by decide +kernel) (ds_cons (de_var (pv 0)) ds_nil)) ds_nil)) (dg_nm (pg_name (i := 8) sc_chain_above.nd rfl (.inl rfl)))
    (dss_one (ds_if (dt_w (dw_and (dt_cmp (op_notInDD (hu65 hr)) notInDD_r2 (de_var (pv 8)) (de_var (pv 5)) rfl) (dw_and1 (dt_cmp op_gt cmpD_r2 (de_r (dr_call T.D_day_in (ok_day_in T) hr hgd tk rfl (da_fz (de_var (pv 0)) (da_fz (de_ix ix_seq ixD_r2 (de_var (pv 7)) (de_un un_neg negD_u de_int) (fun _ _ => rfl)) (da_fz (de_var (pv 8)) da_nil))))) (de_var (pv 3)) (nomark _)))))
    (dss_cons (ds_if (dt_cmp (op_eqX hr.units) eqX_r2 (de_var (pv 8)) (de_var (pv 2)) (nomark _))
    (dss_one (ds_ret (de_tup (ds_star (de_var (pv 7)) (ds_cons (de_var (pv 8)) ds_nil)))))
    dss_nil)
    (dss_cons (ds_set (i := 6) sc_chain_above.nd rfl (.inl rfl) (de_own (do_lst (ds_star (de_var (pv 6)) (ds_cons (de_tup (ds_star (de_var (pv 7)) (ds_cons (de_var (pv 8)) ds_nil))) ds_nil)))) (by decide))
    (dss_one (ds_set (i := 5) sc_chain_above.nd rfl (.inl rfl) (de_own (do_lst (ds_star (de_var (pv 5)) (ds_cons (de_var (pv 8)) ds_nil)))) (by decide)))))
    dss_nil)) (by decide))) (by decide))
    (dss_one (ds_set (i := 4) sc_chain_above.nd rfl (.inl rfl) (de_var (pv 6)) (by decide))))))
    (dss_one (ds_ret de_none)))))
theorem ok_conflict_in (T : Txt K mg) : FnG P w K mg base 4 T.a_conflict_in T.fd_conflict_in ["items", "told"] m_conflict_in := by
  unfold m_conflict_in
  refine fn_bodyP (k := 3) (Pr := []) (b := b_conflict_in) (n := 2) (NL := 8) (N := ["items", "told", "lows", "index", "one", "other", "low", "high"]) T.F_conflict_in sc_conflict_in rfl rfl fun cdv A outer s H E hr hgd => ?_
  have tk := L2N.takes_of (X := cxOf (L2N.CX P w) P w K mg base ["items", "told", "lows", "index", "one", "other", "low", "high"] "conflict_in" (defScope s_conflict_in) T.a_conflict_in cdv A outer s H E) rfl rfl rfl rfl
  exact (dss_cons (ds_set (i := 2) sc_conflict_in.nd rfl (.inl rfl) (de_r (dr_call T.D_lows_of ((ok_lows_of T).up (by decide)) hr hgd tk rfl (da_fz (de_var (pv 0)) (da_fz (de_var (pv 1)) da_nil)))) (by decide))
    (dss_cons (ds_set (i := 3) sc_conflict_in.nd rfl (.inl rfl) (de_r (dr_call T.D_broken_index (ok_broken_index T) hr hgd tk rfl (da_fz (de_var (pv 1)) (da_fz (de_r (dr_call T.D_closed ((ok_closed T).up (by decide)) hr hgd tk rfl (da_fz (de_var (pv 2)) da_nil))) da_nil)))) (by decide))
    (dss_cons (ds_if (dt_cmp op_isN isD_r2 (de_var (pv 3)) de_none (nomark _))
    (dss_one (ds_ret de_none))
    dss_nil)
    (dss_cons (ds_asg (de_ix ix_seq ixD_r2 (de_var (pv 1)) (de_var (pv 3)) (fun _ _ => rfl)) (dg_tp rfl (dgs_cons (dg_nm (pg_name (i := 4) sc_conflict_in.nd rfl (.inl rfl))) (dgs_cons (dg_nm (pg_name (i := 5) sc_conflict_in.nd rfl (.inl rfl))) (dgs_cons (dg_nm (pg_name (i := 6) sc_conflict_in.nd rfl (.inl rfl))) (dgs_cons (dg_nm (pg_name (i := 7) sc_conflict_in.nd rfl (.inl rfl))) dgs_nil))))) (by decide))
    (dss_one (ds_ret (de_tup (ds_cons (de_var (pv 3)) (ds_cons (de_r (dr_call T.D_chain_above ((ok_chain_above T).up (by decide)) hr hgd tk rfl (da_fz (de_var (pv 2)) (da_fz (de_var (pv 4)) (da_fz (de_var (pv 5)) (da_fz (de_var (pv 7)) da_nil)))))) ds_nil)))))))))
theorem ok_conflict (T : Txt K mg) : FnG P w K mg base 5 T.a_conflict T.fd_conflict ["items", "told"] m_conflict := by
  unfold m_conflict
  refine fn_bodyP (k := 4) (Pr := []) (b := b_conflict) (n := 2) (NL := 2) (N := ["items", "told"]) T.F_conflict sc_conflict rfl rfl fun cdv A outer s H E hr hgd => ?_
  have tk := L2N.takes_of (X := cxOf (L2N.CX P w) P w K mg base ["items", "told"] "conflict" (defScope s_conflict) T.a_conflict cdv A outer s H E) rfl rfl rfl rfl
  exact (dss_cons (ds_drop (de_r (dr_call T.D_check_both (ok_check_both T) hr hgd tk rfl (da_fz (de_var (pv 0)) (da_fz (de_var (pv 1)) da_nil)))))
    (dss_one (ds_ret (de_r (dr_call T.D_conflict_in (ok_conflict_in T) hr hgd tk rfl (da_fz (de_var (pv 0)) (da_fz (de_var (pv 1)) da_nil)))))))
theorem ok_possible_days (T : Txt K mg) : FnG P w K mg base 4 T.a_possible_days T.fd_possible_days ["items", "told"] m_possible_days := by
  unfold m_possible_days
  refine fn_bodyP (k := 3) (Pr := []) (b := b_possible_days) (n := 2) (NL := 4) (N := ["items", "told", "days", "index"]) T.F_possible_days sc_possible_days rfl rfl fun cdv A outer s H E hr hgd => ?_
  have tk := L2N.takes_of (X := cxOf (L2N.CX P w) P w K mg base ["items", "told", "days", "index"] "possible_days" (defScope s_possible_days) T.a_possible_days cdv A outer s H E) rfl rfl rfl rfl
  exact (dss_cons (ds_set (i := 2) sc_possible_days.nd rfl (.inl rfl) (de_r (dr_call T.D_closed ((ok_closed T).up (by decide)) hr hgd tk rfl (da_fz (de_r (dr_call T.D_lows_of ((ok_lows_of T).up (by decide)) hr hgd tk rfl (da_fz (de_var (pv 0)) (da_fz (de_var (pv 1)) da_nil)))) da_nil))) (by decide))
    (dss_cons (ds_set (i := 3) sc_possible_days.nd rfl (.inl rfl) (de_r (dr_call T.D_broken_index (ok_broken_index T) hr hgd tk rfl (da_fz (de_var (pv 1)) (da_fz (de_var (pv 2)) da_nil)))) (by decide))
    (dss_cons (ds_if (dt_cmp op_notN isND_r2 (de_var (pv 3)) de_none (nomark _))
    (dss_one ds_never)
    dss_nil)
    (dss_one (ds_ret (de_var (pv 2)))))))
theorem ok_earliest (T : Txt K mg) : FnG P w K mg base 5 T.a_earliest T.fd_earliest ["items", "told"] m_earliest := by
  unfold m_earliest
  refine fn_bodyP (k := 4) (Pr := []) (b := b_earliest) (n := 2) (NL := 2) (N := ["items", "told"]) T.F_earliest sc_earliest rfl rfl fun cdv A outer s H E hr hgd => ?_
  have tk := L2N.takes_of (X := cxOf (L2N.CX P w) P w K mg base ["items", "told"] "earliest" (defScope s_earliest) T.a_earliest cdv A outer s H E) rfl rfl rfl rfl
  exact (dss_cons (ds_drop (de_r (dr_call T.D_check_both (ok_check_both T) hr hgd tk rfl (da_fz (de_var (pv 0)) (da_fz (de_var (pv 1)) da_nil)))))
    (dss_one (ds_ret (de_r (dr_call T.D_possible_days (ok_possible_days T) hr hgd tk rfl (da_fz (de_var (pv 0)) (da_fz (de_var (pv 1)) da_nil)))))))
theorem ok__law_cell_at (T : Txt K mg) : FnG P w K mg base 1 T.a__law_cell_at T.fd__law_cell_at ["script", "k"] m__law_cell_at := by
  unfold m__law_cell_at
  refine fn_bodyP (k := 0) (Pr := []) (b := b__law_cell_at) (n := 2) (NL := 2) (N := ["script", "k"]) T.F__law_cell_at sc__law_cell_at rfl rfl fun cdv A outer s H E hr hgd => ?_
  have tk := L2N.takes_of (X := cxOf (L2N.CX P w) P w K mg base ["script", "k"] "_law_cell_at" (defScope s__law_cell_at) T.a__law_cell_at cdv A outer s H E) rfl rfl rfl rfl
  exact (dss_cons (ds_if (dt_cmp op_lt cmpD_r2 (de_var (pv 1)) (de_callB DL.call_lenD DL.lenD_n rfl T.n_len (by decide +kernel) (ds_cons (de_var (pv 0)) ds_nil)) (nomark _))
    (dss_one (ds_ret (de_ix ix_seq ixD_r2 (de_var (pv 0)) (de_var (pv 1)) (fun _ _ => rfl))))
    dss_nil)
    (dss_one (ds_ret de_int)))
theorem okf__law_same (T : Txt K mg) : ∀ n : Nat, FnG P w K mg base (1 + n) T.a__law_same T.fd__law_same ["found", "due"] (mf__law_same n) := by
  intro n
  induction n with
  | zero => exact FnG.never
  | succ n ih =>
    show FnG P w K mg base ((1 + n) + 1) T.a__law_same T.fd__law_same ["found", "due"] (fnP [] 2 3 (b__law_same (mf__law_same n)))
    refine fn_bodyP (k := 1 + n) (Pr := []) (b := b__law_same (mf__law_same n)) (n := 2) (NL := 3) (N := ["found", "due", "k"]) T.F__law_same sc__law_same rfl rfl fun cdv A outer s H E hr hgd => ?_
    have tk := L2N.takes_of (X := cxOf (L2N.CX P w) P w K mg base ["found", "due", "k"] "_law_same" (defScope s__law_same) T.a__law_same cdv A outer s H E) rfl rfl rfl rfl
    exact (dss_cons (ds_if (dt_val (de_isiT (Ts := ["list", "tuple"]) rfl T.n_isinstance (de_var (pv 1)) (pt_cons (pe_bltn rfl T.n_list (by decide +kernel) rfl) (pt_cons (pe_bltn rfl T.n_tuple (by decide +kernel) rfl) pt_nil))))
    (dss_cons (ds_if (dt_w (dw_or (dt_cmp (op_neX hr.units) neX_r2 (de_isi rfl T.n_isinstance (de_var (pv 0)) (pe_bltn rfl T.n_list (by decide +kernel) rfl)) (de_isi rfl T.n_isinstance (de_var (pv 1)) (pe_bltn rfl T.n_list (by decide +kernel) rfl)) (nomark _)) (dw_or1 (dt_not (dt_val (de_isiT (Ts := ["list", "tuple"]) rfl T.n_isinstance (de_var (pv 0)) (pt_cons (pe_bltn rfl T.n_list (by decide +kernel) rfl) (pt_cons (pe_bltn rfl T.n_tuple (by decide +kernel) rfl) pt_nil))))))))
    (dss_one (ds_ret de_bool))
    dss_nil)
    (dss_cons (ds_if (dt_cmp (op_neX hr.units) neX_r2 (de_callB DL.call_lenD DL.lenD_n rfl T.n_len (by decide +kernel) (ds_cons (de_var (pv 0)) ds_nil)) (de_callB DL.call_lenD DL.lenD_n rfl T.n_len (by decide +kernel) (ds_cons (de_var (pv 1)) ds_nil)) (nomark _))
    (dss_one (ds_ret de_bool))
    dss_nil)
    (dss_one (ds_ret (de_callB (cr_all rfl) allD_n rfl T.n_all (by decide +kernel) (ds_cons (de_own (do_comp rfl sc__law_same.nd (di_rng1 rfl T.n_range (ds_cons (de_callB DL.call_lenD DL.lenD_n rfl T.n_len (by decide +kernel) (ds_cons (de_var (pv 1)) ds_nil)) ds_nil)) (own := [("k", 2)]) (by show blkC ["found", "due", "k"] (defScope s__law_same) _ _ = true; decide +kernel) (fun _ _ _ _ _ => (dg_nm (pg_name (i := 2) sc__law_same.nd rfl (by first | exact .inl rfl | exact .inr rfl)))) (fun _ _ _ _ _ => dts_nil) (fun _ _ _ _ _ => (de_r (dr_call T.D__law_same ih hr hgd takesF rfl (da_fz (de_ix ix_seq ixD_r2 (de_var (pv 0)) (de_var (pv 2)) (fun _ _ => rfl)) (da_fz (de_ix ix_seq ixD_r2 (de_var (pv 1)) (de_var (pv 2)) (fun _ _ => rfl)) da_nil))))) (by decide))) ds_nil))))))
    dss_nil)
    (dss_cons (ds_if (dt_w (dw_or (dt_cmp op_isN isD_r2 (de_var (pv 1)) de_none (nomark _)) (dw_or1 (dt_cmp op_isN isD_r2 (de_var (pv 0)) de_none (nomark _)))))
    (dss_one (ds_ret (de_and (de_cmp op_isN isD_r2 (de_var (pv 1)) de_none (nomark _)) (de_one (de_cmp op_isN isD_r2 (de_var (pv 0)) de_none (nomark _))))))
    dss_nil)
    (dss_cons (ds_if (dt_w (dw_or (dt_val (de_isi rfl T.n_isinstance (de_var (pv 1)) (pe_bltn rfl T.n_bool (by decide +kernel) rfl))) (dw_or1 (dt_val (de_isi rfl T.n_isinstance (de_var (pv 0)) (pe_bltn rfl T.n_bool (by decide +kernel) rfl))))))
    (dss_one (ds_ret (de_and (de_isi rfl T.n_isinstance (de_var (pv 1)) (pe_bltn rfl T.n_bool (by decide +kernel) rfl)) (de_and (de_isi rfl T.n_isinstance (de_var (pv 0)) (pe_bltn rfl T.n_bool (by decide +kernel) rfl)) (de_one (de_cmp (op_eqX hr.units) eqX_r2 (de_var (pv 0)) (de_var (pv 1)) (nomark _)))))))
    dss_nil)
    (dss_one (ds_ret (de_cmp (op_eqX hr.units) eqX_r2 (de_var (pv 0)) (de_var (pv 1)) (nomark _)))))))
theorem ok__law_same (T : Txt K mg) : FnG P w K mg base 7 T.a__law_same T.fd__law_same ["found", "due"] m__law_same := okf__law_same T 6
theorem ok__law_bag (T : Txt K mg) : FnG P w K mg base 1 T.a__law_bag T.fd__law_bag ["cell", "k"] m__law_bag := by
  unfold m__law_bag
  refine fn_bodyP (k := 0) (Pr := []) (b := b__law_bag) (n := 2) (NL := 2) (N := ["cell", "k"]) T.F__law_bag sc__law_bag rfl rfl fun cdv A outer s H E hr hgd => ?_
  have tk := L2N.takes_of (X := cxOf (L2N.CX P w) P w K mg base ["cell", "k"] "_law_bag" (defScope s__law_bag) T.a__law_bag cdv A outer s H E) rfl rfl rfl rfl
  exact (dss_one (ds_retO (do_lst (ds_cons (de_callB (call_maxD rfl) maxD_n rfl T.n_max (by decide +kernel) (ds_cons de_int (ds_cons (de_bin op_subD subD_r2 (de_var (pv 0)) (de_bin op_powD powD_r2 de_int de_int)) ds_nil))) (ds_cons (de_bin op_addD addD_r2 (de_bin op_mod modD_r2 (de_var (pv 0)) de_int) (de_bin op_mulD mulD_r2 de_int (de_bin op_addD addD_r2 (de_var (pv 1)) de_int))) (ds_cons de_int ds_nil))))))
theorem ok__law_day (T : Txt K mg) : FnG P w K mg base 1 T.a__law_day T.fd__law_day ["days", "i", "j"] m__law_day := by
  unfold m__law_day
  refine fn_bodyP (k := 0) (Pr := []) (b := b__law_day) (n := 3) (NL := 3) (N := ["days", "i", "j"]) T.F__law_day sc__law_day rfl rfl fun cdv A outer s H E hr hgd => ?_
  have tk := L2N.takes_of (X := cxOf (L2N.CX P w) P w K mg base ["days", "i", "j"] "_law_day" (defScope s__law_day) T.a__law_day cdv A outer s H E) rfl rfl rfl rfl
  exact (dss_one (ds_ret (de_ix ix_seq ixD_r2 (de_ix ix_seq ixD_r2 (de_var (pv 0)) (de_callB (call_maxD rfl) maxD_n rfl T.n_max (by decide +kernel) (ds_cons (de_var (pv 1)) (ds_cons (de_var (pv 2)) ds_nil))) (fun _ _ => rfl)) (de_callB (call_minD rfl) minD_n rfl T.n_min (by decide +kernel) (ds_cons (de_var (pv 1)) (ds_cons (de_var (pv 2)) ds_nil))) (fun _ _ => rfl))))
theorem ok__law_all (T : Txt K mg) : FnG P w K mg base 2 T.a__law_all T.fd__law_all ["many", "last"] m__law_all := by
  unfold m__law_all
  refine fn_bodyP (k := 1) (Pr := []) (b := b__law_all) (n := 2) (NL := 10) (N := ["many", "last", "found", "item", "longer", "days", "near", "day_here", "line", "j"]) T.F__law_all sc__law_all rfl rfl fun cdv A outer s H E hr hgd => ?_
  have tk := L2N.takes_of (X := cxOf (L2N.CX P w) P w K mg base ["many", "last", "found", "item", "longer", "days", "near", "day_here", "line", "j"] "_law_all" (defScope s__law_all) T.a__law_all cdv A outer s H E) rfl rfl rfl rfl
  exact (dss_cons (ds_set (i := 2) sc__law_all.nd rfl (.inl rfl) (de_own (do_lst (ds_cons (de_tup (ds_cons (de_tup ds_nil) ds_nil)) ds_nil))) (by decide))
    (dss_cons (ds_for (passes_of rfl) rfl (di_rng2 rfl T.n_range (ds_cons de_int (ds_cons (de_var (pv 0)) ds_nil))) (dg_nm (pg_name (i := 3) sc__law_all.nd rfl (.inl rfl)))
    (dss_cons (ds_setO (i := 4) sc__law_all.nd rfl (.inl rfl) do_empN (by decide))
    (dss_cons (ds_for (passes_of rfl) rfl (di_seq (de_var (pv 2))) (dg_nm (pg_name (i := 5) sc__law_all.nd rfl (.inl rfl)))
    (dss_one (ds_for (passes_of rfl) rfl (di_rng1 rfl T.n_range (ds_cons (de_var (pv 3)) ds_nil)) (dg_nm (pg_name (i := 6) sc__law_all.nd rfl (.inl rfl)))
    (dss_one (ds_for (passes_of rfl) rfl (di_rng1 rfl T.n_range (ds_cons (de_bin op_addD addD_r2 (de_var (pv 1)) de_int) ds_nil)) (dg_nm (pg_name (i := 7) sc__law_all.nd rfl (.inl rfl)))
    (dss_cons (ds_setO (i := 8) sc__law_all.nd rfl (.inl rfl) (do_lst ds_nil) (by decide))
    (dss_cons (ds_for (passes_of rfl) rfl (di_rng1 rfl T.n_range (ds_cons (de_var (pv 3)) ds_nil)) (dg_nm (pg_name (i := 9) sc__law_all.nd rfl (.inl rfl)))
    (dss_one (ds_app (pv 8) (de_if (dt_cmp (op_eqX hr.units) eqX_r2 (de_var (pv 9)) (de_var (pv 6)) (nomark _)) (de_var (pv 7)) (de_callB (call_minD rfl) minD_n rfl T.n_min (by decide +kernel) (ds_cons (de_var (pv 7)) (ds_cons (de_r (dr_call T.D__law_day (ok__law_day T) hr hgd tk rfl (da_fz (de_var (pv 5)) (da_fz (de_var (pv 6)) (da_fz (de_var (pv 9)) da_nil))))) ds_nil)))))) (by decide))
    (dss_one (ds_setN (hu12 hr) (pv 4) (by exact de_bool) (by exact (de_bin op_addD addD_r2 (de_var (pv 5)) (de_tup (ds_cons (de_callTy call_tuple_of tupleD_n rfl T.n_tuple (by decide +kernel) (ds_cons (de_var (pv 8)) ds_nil)) ds_nil)))))))) (by decide))) (by decide))) (by decide))
    (dss_one (ds_set (i := 2) sc__law_all.nd rfl (.inl rfl) (de_sortN (hu67 hr) rfl T.n_sorted (pv 4)) (by decide))))) (by decide))
    (dss_one (ds_ret (de_var (pv 2))))))
theorem ok_is_row (T : Txt K mg) : FnG P w K mg base 2 T.a_is_row T.fd_is_row ["value", "size"] m_is_row := by
  unfold m_is_row
  refine fn_bodyP (k := 1) (Pr := []) (b := b_is_row) (n := 2) (NL := 3) (N := ["value", "size", "day"]) T.F_is_row sc_is_row rfl rfl fun cdv A outer s H E hr hgd => ?_
  have tk := L2N.takes_of (X := cxOf (L2N.CX P w) P w K mg base ["value", "size", "day"] "is_row" (defScope s_is_row) T.a_is_row cdv A outer s H E) rfl rfl rfl rfl
  exact (dss_one (ds_ret (de_and (de_isi rfl T.n_isinstance (de_var (pv 0)) (pe_bltn rfl T.n_tuple (by decide +kernel) rfl)) (de_and (de_cmp (op_eqX hr.units) eqX_r2 (de_callB DL.call_lenD DL.lenD_n rfl T.n_len (by decide +kernel) (ds_cons (de_var (pv 0)) ds_nil)) (de_var (pv 1)) (nomark _)) (de_one (de_callB (cr_all rfl) allD_n rfl T.n_all (by decide +kernel) (ds_cons (de_own (do_comp rfl sc_is_row.nd (di_seq (de_var (pv 0))) (own := [("day", 2)]) (by show blkC ["value", "size", "day"] (defScope s_is_row) _ _ = true; decide +kernel) (fun _ _ _ _ _ => (dg_nm (pg_name (i := 2) sc_is_row.nd rfl (by first | exact .inl rfl | exact .inr rfl)))) (fun _ _ _ _ _ => dts_nil) (fun _ _ _ _ _ => (de_r (dr_call T.D_is_integer (ok_is_integer T) hr hgd takesF rfl (da_fz (de_var (pv 2)) (da_fz de_int (da_fz de_none da_nil)))))) (by decide))) ds_nil)))))))
theorem ok_is_table (T : Txt K mg) : FnG P w K mg base 3 T.a_is_table T.fd_is_table ["value"] m_is_table := by
  unfold m_is_table
  refine fn_bodyP (k := 2) (Pr := []) (b := b_is_table) (n := 1) (NL := 3) (N := ["value", "index", "row"]) T.F_is_table sc_is_table rfl rfl fun cdv A outer s H E hr hgd => ?_
  have tk := L2N.takes_of (X := cxOf (L2N.CX P w) P w K mg base ["value", "index", "row"] "is_table" (defScope s_is_table) T.a_is_table cdv A outer s H E) rfl rfl rfl rfl
  exact (dss_cons (ds_if (dt_w (dw_or (dt_not (dt_val (de_isi rfl T.n_isinstance (de_var (pv 0)) (pe_bltn rfl T.n_tuple (by decide +kernel) rfl)))) (dw_or1 (dt_cmp (op_eqX hr.units) eqX_r2 (de_var (pv 0)) (de_tup ds_nil) (nomark _)))))
    (dss_one (ds_ret de_bool))
    dss_nil)
    (dss_one (ds_ret (de_callB (cr_all rfl) allD_n rfl T.n_all (by decide +kernel) (ds_cons (de_own (do_comp rfl sc_is_table.nd (di_enum rfl T.n_enumerate (ds_cons (de_var (pv 0)) ds_nil)) (own := [("index", 1), ("row", 2)]) (by show blkC ["value", "index", "row"] (defScope s_is_table) _ _ = true; decide +kernel) (fun _ _ _ _ _ => (dg_tp rfl (dgs_cons (dg_nm (pg_name (i := 1) sc_is_table.nd rfl (by first | exact .inl rfl | exact .inr rfl))) (dgs_cons (dg_nm (pg_name (i := 2) sc_is_table.nd rfl (by first | exact .inl rfl | exact .inr rfl))) dgs_nil)))) (fun _ _ _ _ _ => dts_nil) (fun _ _ _ _ _ => (de_r (dr_call T.D_is_row (ok_is_row T) hr hgd takesF rfl (da_fz (de_var (pv 2)) (da_fz (de_var (pv 1)) da_nil))))) (by decide))) ds_nil)))))
theorem ok_bad_in (T : Txt K mg) : FnG P w K mg base 1 T.a_bad_in T.fd_bad_in ["table"] m_bad_in := by
  unfold m_bad_in
  refine fn_bodyP (k := 0) (Pr := []) (b := b_bad_in) (n := 1) (NL := 5) (N := ["table", "one", "two", "three", "days"]) T.F_bad_in sc_bad_in rfl rfl fun cdv A outer s H E hr hgd => ?_
  have tk := L2N.takes_of (X := cxOf (L2N.CX P w) P w K mg base ["table", "one", "two", "three", "days"] "bad_in" (defScope s_bad_in) T.a_bad_in cdv A outer s H E) rfl rfl rfl rfl
  exact (dss_cons (ds_for (passes_of rfl) rfl (di_rng1 rfl T.n_range (ds_cons (de_callB DL.call_lenD DL.lenD_n rfl T.n_len (by decide +kernel) (ds_cons (de_var (pv 0)) ds_nil)) ds_nil)) (dg_nm (pg_name (i := 1) sc_bad_in.nd rfl (.inl rfl)))
    (dss_one (ds_for (passes_of rfl) rfl (di_rng2 rfl T.n_range (ds_cons (de_bin op_addD addD_r2 (de_var (pv 1)) de_int) (ds_cons (de_callB DL.call_lenD DL.lenD_n rfl T.n_len (by decide +kernel) (ds_cons (de_var (pv 0)) ds_nil)) ds_nil))) (dg_nm (pg_name (i := 2) sc_bad_in.nd rfl (.inl rfl)))
    (dss_one (ds_for (passes_of rfl) rfl (di_rng2 rfl T.n_range (ds_cons (de_bin op_addD addD_r2 (de_var (pv 2)) de_int) (ds_cons (de_callB DL.call_lenD DL.lenD_n rfl T.n_len (by decide +kernel) (ds_cons (de_var (pv 0)) ds_nil)) ds_nil))) (dg_nm (pg_name (i := 3) sc_bad_in.nd rfl (.inl rfl)))
    (dss_cons (ds_set (i := 4) sc_bad_in.nd rfl (.inl rfl) (de_callB cr_sortedI sortI_n rfl T.n_sorted (by decide +kernel) (ds_cons (de_own (do_lst (ds_cons (de_ix ix_seq ixD_r2 (de_ix ix_seq ixD_r2 (de_var (pv 0)) (de_var (pv 2)) (fun _ _ => rfl)) (de_var (pv 1)) (fun _ _ => rfl)) (ds_cons (de_ix ix_seq ixD_r2 (de_ix ix_seq ixD_r2 (de_var (pv 0)) (de_var (pv 3)) (fun _ _ => rfl)) (de_var (pv 1)) (fun _ _ => rfl)) (ds_cons (de_ix ix_seq ixD_r2 (de_ix ix_seq ixD_r2 (de_var (pv 0)) (de_var (pv 3)) (fun _ _ => rfl)) (de_var (pv 2)) (fun _ _ => rfl)) ds_nil))))) ds_nil)) (by decide))
    (dss_one (ds_if (dt_cmp (op_neX hr.units) neX_r2 (de_ix ix_seq ixD_r2 (de_var (pv 4)) de_int (fun _ _ => rfl)) (de_ix ix_seq ixD_r2 (de_var (pv 4)) de_int (fun _ _ => rfl)) (nomark _))
    (dss_one (ds_ret (de_tup (ds_cons (de_var (pv 1)) (ds_cons (de_var (pv 2)) (ds_cons (de_var (pv 3)) ds_nil))))))
    dss_nil))) (by decide))) (by decide))) (by decide))
    (dss_one (ds_ret de_none)))
theorem ok_is_history (T : Txt K mg) : FnG P w K mg base 4 T.a_is_history T.fd_is_history ["value"] m_is_history := by
  unfold m_is_history
  refine fn_bodyP (k := 3) (Pr := []) (b := b_is_history) (n := 1) (NL := 1) (N := ["value"]) T.F_is_history sc_is_history rfl rfl fun cdv A outer s H E hr hgd => ?_
  have tk := L2N.takes_of (X := cxOf (L2N.CX P w) P w K mg base ["value"] "is_history" (defScope s_is_history) T.a_is_history cdv A outer s H E) rfl rfl rfl rfl
  exact (dss_one (ds_ret (de_and (de_r (dr_call T.D_is_table (ok_is_table T) hr hgd tk rfl (da_fz (de_var (pv 0)) da_nil))) (de_one (de_cmp op_isN isD_r2 (de_r (dr_call T.D_bad_in ((ok_bad_in T).up (by decide)) hr hgd tk rfl (da_fz (de_var (pv 0)) da_nil))) de_none (nomark _))))))
theorem ok_check_history (T : Txt K mg) : FnG P w K mg base 5 T.a_check_history T.fd_check_history ["history"] m_check_history := by
  unfold m_check_history
  refine fn_bodyP (k := 4) (Pr := []) (b := b_check_history) (n := 1) (NL := 1) (N := ["history"]) T.F_check_history sc_check_history rfl rfl fun cdv A outer s H E hr hgd => ?_
  have tk := L2N.takes_of (X := cxOf (L2N.CX P w) P w K mg base ["history"] "check_history" (defScope s_check_history) T.a_check_history cdv A outer s H E) rfl rfl rfl rfl
  exact (dss_one (ds_if (dt_not (dt_val (de_r (dr_call T.D_is_history (ok_is_history T) hr hgd tk rfl (da_fz (de_var (pv 0)) da_nil)))))
    (dss_one ds_never)
    dss_nil))
theorem ok_is_kept (T : Txt K mg) : FnG P w K mg base 2 T.a_is_kept T.fd_is_kept ["history", "bound"] m_is_kept := by
  unfold m_is_kept
  refine fn_bodyP (k := 1) (Pr := []) (b := b_is_kept) (n := 2) (NL := 7) (N := ["history", "bound", "one", "other", "low", "high", "day"]) T.F_is_kept sc_is_kept rfl rfl fun cdv A outer s H E hr hgd => ?_
  have tk := L2N.takes_of (X := cxOf (L2N.CX P w) P w K mg base ["history", "bound", "one", "other", "low", "high", "day"] "is_kept" (defScope s_is_kept) T.a_is_kept cdv A outer s H E) rfl rfl rfl rfl
  exact (dss_cons (ds_asg (de_var (pv 1)) (dg_tp rfl (dgs_cons (dg_nm (pg_name (i := 2) sc_is_kept.nd rfl (.inl rfl))) (dgs_cons (dg_nm (pg_name (i := 3) sc_is_kept.nd rfl (.inl rfl))) (dgs_cons (dg_nm (pg_name (i := 4) sc_is_kept.nd rfl (.inl rfl))) (dgs_cons (dg_nm (pg_name (i := 5) sc_is_kept.nd rfl (.inl rfl))) dgs_nil))))) (by decide))
    (dss_cons (ds_set (i := 6) sc_is_kept.nd rfl (.inl rfl) (de_r (dr_call T.D_day_in (ok_day_in T) hr hgd tk rfl (da_fz (de_var (pv 0)) (da_fz (de_var (pv 2)) (da_fz (de_var (pv 3)) da_nil))))) (by decide))
    (dss_one (ds_ret (de_and (de_cmp op_le cmpD_r2 (de_var (pv 4)) (de_var (pv 6)) (nomark _)) (de_one (de_or (de_cmp op_isN isD_r2 (de_var (pv 5)) de_none (nomark _)) (de_one (de_cmp op_le cmpD_r2 (de_var (pv 6)) (de_var (pv 5)) (nomark _))))))))))
theorem ok_keeps (T : Txt K mg) : FnG P w K mg base 6 T.a_keeps T.fd_keeps ["history", "told"] m_keeps := by
  unfold m_keeps
  refine fn_bodyP (k := 5) (Pr := []) (b := b_keeps) (n := 2) (NL := 3) (N := ["history", "told", "bound"]) T.F_keeps sc_keeps rfl rfl fun cdv A outer s H E hr hgd => ?_
  have tk := L2N.takes_of (X := cxOf (L2N.CX P w) P w K mg base ["history", "told", "bound"] "keeps" (defScope s_keeps) T.a_keeps cdv A outer s H E) rfl rfl rfl rfl
  exact (dss_cons (ds_drop (de_r (dr_call T.D_check_history (ok_check_history T) hr hgd tk rfl (da_fz (de_var (pv 0)) da_nil))))
    (dss_cons (ds_drop (de_r (dr_call T.D_check_told ((ok_check_told T).up (by decide)) hr hgd tk rfl (da_fz (de_callB DL.call_lenD DL.lenD_n rfl T.n_len (by decide +kernel) (ds_cons (de_var (pv 0)) ds_nil)) (da_fz (de_var (pv 1)) da_nil)))))
    (dss_one (ds_ret (de_callB (cr_all rfl) allD_n rfl T.n_all (by decide +kernel) (ds_cons (de_own (do_comp rfl sc_keeps.nd (di_seq (de_var (pv 1))) (own := [("bound", 2)]) (by show blkC ["history", "told", "bound"] (defScope s_keeps) _ _ = true; decide +kernel) (fun _ _ _ _ _ => (dg_nm (pg_name (i := 2) sc_keeps.nd rfl (by first | exact .inl rfl | exact .inr rfl)))) (fun _ _ _ _ _ => dts_nil) (fun _ _ _ _ _ => (de_r (dr_call T.D_is_kept ((ok_is_kept T).up (by decide)) hr hgd takesF rfl (da_fz (de_var (pv 0)) (da_fz (de_var (pv 2)) da_nil))))) (by decide))) ds_nil))))))
theorem ok__law_take (T : Txt K mg) : FnG P w K mg base 1 T.a__law_take T.fd__law_take ["bag", "bound"] m__law_take := by
  unfold m__law_take
  refine fn_bodyP (k := 0) (Pr := [0]) (b := b__law_take) (n := 2) (NL := 4) (N := ["bag", "bound", "found", "mixed"]) T.F__law_take sc__law_take rfl rfl fun cdv A outer s H E hr hgd => ?_
  have tk := L2N.takes_of (X := cxOf (L2N.CX P w) P w K mg base ["bag", "bound", "found", "mixed"] "_law_take" (defScope s__law_take) T.a__law_take cdv A outer s H E) rfl rfl rfl rfl
  exact (dss_cons (ds_if (dt_cmp op_gt cmpD_r2 (de_ixP (pv 0) de_int (fun _ _ => rfl)) de_int (nomark _))
    (dss_cons (ds_set (i := 2) sc__law_take.nd rfl (.inl rfl) (de_bin op_mod modD_r2 (de_ixP (pv 0) de_int (fun _ _ => rfl)) (de_var (pv 1))) (by decide))
    (dss_cons (ds_setIx (pv 0) (by exact (de_bin op_fdivW fdivD_r2 (de_ixP (pv 0) de_int (fun _ _ => rfl)) (de_var (pv 1)))) (by exact de_int))
    (dss_one (ds_ret (de_var (pv 2))))))
    dss_nil)
    (dss_cons (ds_setIx (pv 0) (by exact (de_bin op_addD addD_r2 (de_ixP (pv 0) de_int (fun _ _ => rfl)) de_int)) (by exact de_int))
    (dss_cons (ds_set (i := 3) sc__law_take.nd rfl (.inl rfl) (de_bin op_mod modD_r2 (de_bin op_powD powD_r2 (de_bin op_addD addD_r2 (de_ixP (pv 0) de_int (fun _ _ => rfl)) (de_bin op_mulD mulD_r2 de_int (de_ixP (pv 0) de_int (fun _ _ => rfl)))) de_int) de_int) (by decide))
    (dss_cons (ds_set (i := 3) sc__law_take.nd rfl (.inl rfl) (de_bin op_mod modD_r2 (de_bin op_powD powD_r2 (de_bin op_addD addD_r2 (de_var (pv 3)) (de_bin op_mulD mulD_r2 de_int (de_ixP (pv 0) de_int (fun _ _ => rfl)))) de_int) de_int) (by decide))
    (dss_one (ds_ret (de_bin op_mod modD_r2 (de_bin op_fdivW fdivD_r2 (de_var (pv 3)) de_int) (de_var (pv 1)))))))))
theorem ok__law_holds (T : Txt K mg) : FnG P w K mg base 2 T.a__law_holds T.fd__law_holds ["days", "bound"] m__law_holds := by
  unfold m__law_holds
  refine fn_bodyP (k := 1) (Pr := []) (b := b__law_holds) (n := 2) (NL := 3) (N := ["days", "bound", "day_here"]) T.F__law_holds sc__law_holds rfl rfl fun cdv A outer s H E hr hgd => ?_
  have tk := L2N.takes_of (X := cxOf (L2N.CX P w) P w K mg base ["days", "bound", "day_here"] "_law_holds" (defScope s__law_holds) T.a__law_holds cdv A outer s H E) rfl rfl rfl rfl
  exact (dss_cons (ds_set (i := 2) sc__law_holds.nd rfl (.inl rfl) (de_r (dr_call T.D__law_day (ok__law_day T) hr hgd tk rfl (da_fz (de_var (pv 0)) (da_fz (de_ix ix_seq ixD_r2 (de_var (pv 1)) de_int (fun _ _ => rfl)) (da_fz (de_ix ix_seq ixD_r2 (de_var (pv 1)) de_int (fun _ _ => rfl)) da_nil))))) (by decide))
    (dss_one (ds_ret (de_and (de_cmp op_le cmpD_r2 (de_ix ix_seq ixD_r2 (de_var (pv 1)) de_int (fun _ _ => rfl)) (de_var (pv 2)) (nomark _)) (de_one (de_or (de_cmp op_isN isD_r2 (de_ix ix_seq ixD_r2 (de_var (pv 1)) de_int (fun _ _ => rfl)) de_none (nomark _)) (de_one (de_cmp op_le cmpD_r2 (de_var (pv 2)) (de_ix ix_seq ixD_r2 (de_var (pv 1)) de_int (fun _ _ => rfl)) (nomark _)))))))))
theorem ok__law_keeping (T : Txt K mg) : FnG P w K mg base 3 T.a__law_keeping T.fd__law_keeping ["histories_here", "told_here"] m__law_keeping := by
  unfold m__law_keeping
  refine fn_bodyP (k := 2) (Pr := []) (b := b__law_keeping) (n := 2) (NL := 5) (N := ["histories_here", "told_here", "found", "days", "bound"]) T.F__law_keeping sc__law_keeping rfl rfl fun cdv A outer s H E hr hgd => ?_
  have tk := L2N.takes_of (X := cxOf (L2N.CX P w) P w K mg base ["histories_here", "told_here", "found", "days", "bound"] "_law_keeping" (defScope s__law_keeping) T.a__law_keeping cdv A outer s H E) rfl rfl rfl rfl
  exact (dss_cons (ds_setO (i := 2) sc__law_keeping.nd rfl (.inl rfl) (do_lst ds_nil) (by decide))
    (dss_cons (ds_for (passes_of rfl) rfl (di_seq (de_var (pv 0))) (dg_nm (pg_name (i := 3) sc__law_keeping.nd rfl (.inr rfl)))
    (dss_one (ds_if (dt_cmp (op_eqX hr.units) eqX_r2 (de_own (do_comp rfl sc__law_keeping.nd (di_seq (de_var (pv 1))) (own := [("bound", 4)]) (by show blkC ["histories_here", "told_here", "found", "days", "bound"] (defScope s__law_keeping) _ _ = true; decide +kernel) (fun _ _ _ _ _ => (dg_nm (pg_name (i := 4) sc__law_keeping.nd rfl (by first | exact .inl rfl | exact .inr rfl)))) (fun _ _ _ _ _ => (dts_one (dt_not (dt_val (de_r (dr_call T.D__law_holds (ok__law_holds T) hr hgd takesF rfl (da_fz (de_var (pv 3)) (da_fz (de_var (pv 4)) da_nil)))))))) (fun _ _ _ _ _ => (de_var (pv 4))) (by decide))) (de_own (do_lst ds_nil)) (nomark _))
    (dss_one (ds_app (pv 2) (de_var (pv 3))))
    dss_nil)) (by decide))
    (dss_one (ds_retV (pv 2)))))
theorem ok__law_least (T : Txt K mg) : FnG P w K mg base 1 T.a__law_least T.fd__law_least ["histories_here"] m__law_least := by
  unfold m__law_least
  refine fn_bodyP (k := 0) (Pr := []) (b := b__law_least) (n := 1) (NL := 5) (N := ["histories_here", "found", "i", "j", "days"]) T.F__law_least sc__law_least rfl rfl fun cdv A outer s H E hr hgd => ?_
  have tk := L2N.takes_of (X := cxOf (L2N.CX P w) P w K mg base ["histories_here", "found", "i", "j", "days"] "_law_least" (defScope s__law_least) T.a__law_least cdv A outer s H E) rfl rfl rfl rfl
  exact (dss_cons (ds_setO (i := 1) sc__law_least.nd rfl (.inl rfl) (do_lst ds_nil) (by decide))
    (dss_cons (ds_for (passes_of rfl) rfl (di_rng1 rfl T.n_range (ds_cons (de_callB DL.call_lenD DL.lenD_n rfl T.n_len (by decide +kernel) (ds_cons (de_ix ix_seq ixD_r2 (de_var (pv 0)) de_int (fun _ _ => rfl)) ds_nil)) ds_nil)) (dg_nm (pg_name (i := 2) sc__law_least.nd rfl (.inr rfl)))
    (dss_one (ds_app (pv 1) (de_callTy call_tuple_of tupleD_n rfl T.n_tuple (by decide +kernel) (ds_cons (de_own (do_comp rfl sc__law_least.nd (di_rng1 rfl T.n_range (ds_cons (de_var (pv 2)) ds_nil)) (own := [("j", 3)]) (by show blkC ["histories_here", "found", "i", "j", "days"] (defScope s__law_least) _ _ = true; decide +kernel) (fun _ _ _ _ _ => (dg_nm (pg_name (i := 3) sc__law_least.nd rfl (by first | exact .inl rfl | exact .inr rfl)))) (fun _ _ _ _ _ => dts_nil) (fun _ _ _ _ _ => (de_callB (call_minD rfl) minD_n rfl T.n_min (by decide +kernel) (ds_cons (de_own (do_comp rfl sc__law_least.nd (di_seq (de_var (pv 0))) (own := [("days", 4)]) (by rfl) (fun _ _ _ _ _ => (dg_nm (pg_name (i := 4) sc__law_least.nd rfl (by first | exact .inl rfl | exact .inr rfl)))) (fun _ _ _ _ _ => dts_nil) (fun _ _ _ _ _ => (de_ix ix_seq ixD_r2 (de_ix ix_seq ixD_r2 (de_var (pv 4)) (de_var (pv 2)) (fun _ _ => rfl)) (de_var (pv 3)) (fun _ _ => rfl))) (by decide))) ds_nil))) (by decide))) ds_nil)))) (by decide))
    (dss_one (ds_ret (de_callTy call_tuple_of tupleD_n rfl T.n_tuple (by decide +kernel) (ds_cons (de_var (pv 1)) ds_nil))))))
theorem ok__law_pair (T : Txt K mg) : FnG P w K mg base 2 T.a__law_pair T.fd__law_pair ["bag", "many"] m__law_pair := by
  unfold m__law_pair
  refine fn_bodyP (k := 1) (Pr := [0]) (b := b__law_pair) (n := 2) (NL := 3) (N := ["bag", "many", "one"]) T.F__law_pair sc__law_pair rfl rfl fun cdv A outer s H E hr hgd => ?_
  have tk := L2N.takes_of (X := cxOf (L2N.CX P w) P w K mg base ["bag", "many", "one"] "_law_pair" (defScope s__law_pair) T.a__law_pair cdv A outer s H E) rfl rfl rfl rfl
  exact (dss_cons (ds_set (i := 2) sc__law_pair.nd rfl (.inl rfl) (de_r (dr_call T.D__law_take (ok__law_take T) hr hgd tk rfl (da_rf (pv 0) (da_fz (de_var (pv 1)) da_nil)))) (by decide))
    (dss_one (ds_ret (de_tup (ds_cons (de_var (pv 2)) (ds_cons (de_bin op_mod modD_r2 (de_bin op_addD addD_r2 (de_bin op_addD addD_r2 (de_var (pv 2)) de_int) (de_r (dr_call T.D__law_take (ok__law_take T) hr hgd tk rfl (da_rf (pv 0) (da_fz (de_bin op_subD subD_r2 (de_var (pv 1)) de_int) da_nil))))) (de_var (pv 1))) ds_nil))))))
theorem ok__law_wild (T : Txt K mg) : FnG P w K mg base 3 T.a__law_wild T.fd__law_wild ["bag", "many", "last", "size"] m__law_wild := by
  unfold m__law_wild
  refine fn_bodyP (k := 2) (Pr := [0]) (b := b__law_wild) (n := 4) (NL := 10) (N := ["bag", "many", "last", "size", "found", "turn", "one", "two", "low_here", "high_here"]) T.F__law_wild sc__law_wild rfl rfl fun cdv A outer s H E hr hgd => ?_
  have tk := L2N.takes_of (X := cxOf (L2N.CX P w) P w K mg base ["bag", "many", "last", "size", "found", "turn", "one", "two", "low_here", "high_here"] "_law_wild" (defScope s__law_wild) T.a__law_wild cdv A outer s H E) rfl rfl rfl rfl
  exact (dss_cons (ds_setO (i := 4) sc__law_wild.nd rfl (.inl rfl) (do_lst ds_nil) (by decide))
    (dss_cons (ds_for (passes_of rfl) rfl (di_rng1 rfl T.n_range (ds_cons (de_var (pv 3)) ds_nil)) (dg_nm (pg_name (i := 5) sc__law_wild.nd rfl (.inl rfl)))
    (dss_cons (ds_asg (de_r (dr_call T.D__law_pair (ok__law_pair T) hr hgd tk rfl (da_rf (pv 0) (da_fz (de_var (pv 1)) da_nil)))) (dg_tp rfl (dgs_cons (dg_nm (pg_name (i := 6) sc__law_wild.nd rfl (.inl rfl))) (dgs_cons (dg_nm (pg_name (i := 7) sc__law_wild.nd rfl (.inl rfl))) dgs_nil))) (by decide))
    (dss_cons (ds_set (i := 8) sc__law_wild.nd rfl (.inl rfl) (de_ix ix_seq ixD_r2 (de_own (do_lst (ds_cons de_int (ds_cons (de_r (dr_call T.D__law_take ((ok__law_take T).up (by decide)) hr hgd tk rfl (da_rf (pv 0) (da_fz (de_bin op_addD addD_r2 (de_var (pv 2)) de_int) da_nil)))) ds_nil)))) (de_r (dr_call T.D__law_take ((ok__law_take T).up (by decide)) hr hgd tk rfl (da_rf (pv 0) (da_fz de_int da_nil)))) (fun _ _ => rfl)) (by decide))
    (dss_cons (ds_set (i := 9) sc__law_wild.nd rfl (.inl rfl) (de_ix ix_seq ixD_r2 (de_own (do_lst (ds_cons de_none (ds_cons (de_var (pv 8)) (ds_cons (de_bin op_addD addD_r2 (de_var (pv 8)) (de_r (dr_call T.D__law_take ((ok__law_take T).up (by decide)) hr hgd tk rfl (da_rf (pv 0) (da_fz (de_bin op_subD subD_r2 (de_bin op_addD addD_r2 (de_var (pv 2)) de_int) (de_var (pv 8))) da_nil))))) ds_nil))))) (de_r (dr_call T.D__law_take ((ok__law_take T).up (by decide)) hr hgd tk rfl (da_rf (pv 0) (da_fz de_int da_nil)))) (fun _ _ => rfl)) (by decide))
    (dss_one (ds_app (pv 4) (de_tup (ds_cons (de_var (pv 6)) (ds_cons (de_var (pv 7)) (ds_cons (de_var (pv 8)) (ds_cons (de_var (pv 9)) ds_nil)))))))))) (by decide))
    (dss_one (ds_ret (de_callTy call_tuple_of tupleD_n rfl T.n_tuple (by decide +kernel) (ds_cons (de_var (pv 4)) ds_nil))))))
theorem ok__law_tree (T : Txt K mg) : FnG P w K mg base 2 T.a__law_tree T.fd__law_tree ["bag", "many", "last"] m__law_tree := by
  unfold m__law_tree
  refine fn_bodyP (k := 1) (Pr := [0]) (b := b__law_tree) (n := 3) (NL := 10) (N := ["bag", "many", "last", "rows", "seen", "item", "near", "day_here", "line", "j"]) T.F__law_tree sc__law_tree rfl rfl fun cdv A outer s H E hr hgd => ?_
  have tk := L2N.takes_of (X := cxOf (L2N.CX P w) P w K mg base ["bag", "many", "last", "rows", "seen", "item", "near", "day_here", "line", "j"] "_law_tree" (defScope s__law_tree) T.a__law_tree cdv A outer s H E) rfl rfl rfl rfl
  exact (dss_cons (ds_parOO (i := 3) (j := 4) rfl sc__law_tree.nd rfl rfl (by decide) rfl rfl (do_lst (ds_cons (de_tup ds_nil) ds_nil)) (do_lst (ds_cons de_int (ds_cons (de_var (pv 2)) (ds_cons (de_r (dr_call T.D__law_take (ok__law_take T) hr hgd tk rfl (da_rf (pv 0) (da_fz (de_bin op_addD addD_r2 (de_var (pv 2)) de_int) da_nil)))) ds_nil)))) (by decide) (by decide) (by rfl))
    (dss_cons (ds_for (passes_of rfl) rfl (di_rng2 rfl T.n_range (ds_cons de_int (ds_cons (de_var (pv 1)) ds_nil))) (dg_nm (pg_name (i := 5) sc__law_tree.nd rfl (.inl rfl)))
    (dss_cons (ds_par (i := 6) (j := 7) rfl sc__law_tree.nd rfl rfl (by decide) rfl rfl (ds_cons (de_r (dr_call T.D__law_take (ok__law_take T) hr hgd tk rfl (da_rf (pv 0) (da_fz (de_var (pv 5)) da_nil)))) (ds_cons (de_r (dr_call T.D__law_take (ok__law_take T) hr hgd tk rfl (da_rf (pv 0) (da_fz (de_bin op_addD addD_r2 (de_var (pv 2)) de_int) da_nil)))) ds_nil)) (by decide) (by decide) (by rfl))
    (dss_cons (ds_set (i := 7) sc__law_tree.nd rfl (.inl rfl) (de_ix ix_seq ixD_r2 (de_own (do_lst (ds_cons (de_var (pv 7)) (ds_cons (de_ixP (pv 4) (de_r (dr_call T.D__law_take (ok__law_take T) hr hgd tk rfl (da_rf (pv 0) (da_fz (de_lenP rfl T.n_len (pv 4)) da_nil)))) (fun _ _ => rfl)) ds_nil)))) (de_r (dr_call T.D__law_take (ok__law_take T) hr hgd tk rfl (da_rf (pv 0) (da_fz de_int da_nil)))) (fun _ _ => rfl)) (by decide))
    (dss_cons (ds_app (pv 4) (de_var (pv 7)))
    (dss_cons (ds_setO (i := 8) sc__law_tree.nd rfl (.inl rfl) (do_lst ds_nil) (by decide))
    (dss_cons (ds_for (passes_of rfl) rfl (di_rng1 rfl T.n_range (ds_cons (de_var (pv 5)) ds_nil)) (dg_nm (pg_name (i := 9) sc__law_tree.nd rfl (.inl rfl)))
    (dss_one (ds_app (pv 8) (de_if (dt_cmp (op_eqX hr.units) eqX_r2 (de_var (pv 9)) (de_var (pv 6)) (nomark _)) (de_var (pv 7)) (de_callB (call_minD rfl) minD_n rfl T.n_min (by decide +kernel) (ds_cons (de_var (pv 7)) (ds_cons (de_ix ix_seq ixD_r2 (de_ixP (pv 3) (de_callB (call_maxD rfl) maxD_n rfl T.n_max (by decide +kernel) (ds_cons (de_var (pv 6)) (ds_cons (de_var (pv 9)) ds_nil))) (fun _ _ => rfl)) (de_callB (call_minD rfl) minD_n rfl T.n_min (by decide +kernel) (ds_cons (de_var (pv 6)) (ds_cons (de_var (pv 9)) ds_nil))) (fun _ _ => rfl)) ds_nil)))))) (by decide))
    (dss_one (ds_app (pv 3) (de_callTy call_tuple_of tupleD_n rfl T.n_tuple (by decide +kernel) (ds_cons (de_var (pv 8)) ds_nil))))))))) (by decide))
    (dss_one (ds_ret (de_callTy call_tuple_of tupleD_n rfl T.n_tuple (by decide +kernel) (ds_cons (de_var (pv 3)) ds_nil))))))
theorem ok__law_true (T : Txt K mg) : FnG P w K mg base 3 T.a__law_true T.fd__law_true ["bag", "days", "last", "size"] m__law_true := by
  unfold m__law_true
  refine fn_bodyP (k := 2) (Pr := [0]) (b := b__law_true) (n := 4) (NL := 11) (N := ["bag", "days", "last", "size", "found", "turn", "one", "two", "day_here", "low_here", "high_here"]) T.F__law_true sc__law_true rfl rfl fun cdv A outer s H E hr hgd => ?_
  have tk := L2N.takes_of (X := cxOf (L2N.CX P w) P w K mg base ["bag", "days", "last", "size", "found", "turn", "one", "two", "day_here", "low_here", "high_here"] "_law_true" (defScope s__law_true) T.a__law_true cdv A outer s H E) rfl rfl rfl rfl
  exact (dss_cons (ds_setO (i := 4) sc__law_true.nd rfl (.inl rfl) (do_lst ds_nil) (by decide))
    (dss_cons (ds_for (passes_of rfl) rfl (di_rng1 rfl T.n_range (ds_cons (de_var (pv 3)) ds_nil)) (dg_nm (pg_name (i := 5) sc__law_true.nd rfl (.inl rfl)))
    (dss_cons (ds_asg (de_r (dr_call T.D__law_pair (ok__law_pair T) hr hgd tk rfl (da_rf (pv 0) (da_fz (de_callB DL.call_lenD DL.lenD_n rfl T.n_len (by decide +kernel) (ds_cons (de_var (pv 1)) ds_nil)) da_nil)))) (dg_tp rfl (dgs_cons (dg_nm (pg_name (i := 6) sc__law_true.nd rfl (.inl rfl))) (dgs_cons (dg_nm (pg_name (i := 7) sc__law_true.nd rfl (.inl rfl))) dgs_nil))) (by decide))
    (dss_cons (ds_set (i := 8) sc__law_true.nd rfl (.inl rfl) (de_ix ix_seq ixD_r2 (de_ix ix_seq ixD_r2 (de_var (pv 1)) (de_callB (call_maxD rfl) maxD_n rfl T.n_max (by decide +kernel) (ds_cons (de_var (pv 6)) (ds_cons (de_var (pv 7)) ds_nil))) (fun _ _ => rfl)) (de_callB (call_minD rfl) minD_n rfl T.n_min (by decide +kernel) (ds_cons (de_var (pv 6)) (ds_cons (de_var (pv 7)) ds_nil))) (fun _ _ => rfl)) (by decide))
    (dss_cons (ds_set (i := 9) sc__law_true.nd rfl (.inl rfl) (de_ix ix_seq ixD_r2 (de_own (do_lst (ds_cons de_int (ds_cons (de_var (pv 8)) (ds_cons (de_r (dr_call T.D__law_take ((ok__law_take T).up (by decide)) hr hgd tk rfl (da_rf (pv 0) (da_fz (de_bin op_addD addD_r2 (de_var (pv 8)) de_int) da_nil)))) ds_nil))))) (de_r (dr_call T.D__law_take ((ok__law_take T).up (by decide)) hr hgd tk rfl (da_rf (pv 0) (da_fz de_int da_nil)))) (fun _ _ => rfl)) (by decide))
    (dss_cons (ds_set (i := 10) sc__law_true.nd rfl (.inl rfl) (de_ix ix_seq ixD_r2 (de_own (do_lst (ds_cons de_none (ds_cons (de_var (pv 8)) (ds_cons (de_bin op_addD addD_r2 (de_var (pv 8)) (de_r (dr_call T.D__law_take ((ok__law_take T).up (by decide)) hr hgd tk rfl (da_rf (pv 0) (da_fz (de_bin op_addD addD_r2 (de_var (pv 2)) de_int) da_nil))))) ds_nil))))) (de_r (dr_call T.D__law_take ((ok__law_take T).up (by decide)) hr hgd tk rfl (da_rf (pv 0) (da_fz de_int da_nil)))) (fun _ _ => rfl)) (by decide))
    (dss_one (ds_app (pv 4) (de_tup (ds_cons (de_var (pv 6)) (ds_cons (de_var (pv 7)) (ds_cons (de_var (pv 9)) (ds_cons (de_var (pv 10)) ds_nil))))))))))) (by decide))
    (dss_one (ds_ret (de_callTy call_tuple_of tupleD_n rfl T.n_tuple (by decide +kernel) (ds_cons (de_var (pv 4)) ds_nil))))))
theorem ok__law_right (T : Txt K mg) : FnG P w K mg base 8 T.a__law_right T.fd__law_right ["bag", "every", "many"] m__law_right := by
  unfold m__law_right
  refine fn_bodyP (k := 7) (Pr := [0]) (b := b__law_right) (n := 3) (NL := 9) (N := ["bag", "every", "many", "told_here", "fitting", "some", "heard", "days", "due"]) T.F__law_right sc__law_right rfl rfl fun cdv A outer s H E hr hgd => ?_
  have tk := L2N.takes_of (X := cxOf (L2N.CX P w) P w K mg base ["bag", "every", "many", "told_here", "fitting", "some", "heard", "days", "due"] "_law_right" (defScope s__law_right) T.a__law_right cdv A outer s H E) rfl rfl rfl rfl
  exact (dss_cons (ds_set (i := 3) sc__law_right.nd rfl (.inl rfl) (de_r (dr_call T.D__law_wild ((ok__law_wild T).up (by decide)) hr hgd tk rfl (da_rf (pv 0) (da_fz (de_var (pv 2)) (da_fz de_int (da_fz (de_r (dr_call T.D__law_take ((ok__law_take T).up (by decide)) hr hgd tk rfl (da_rf (pv 0) (da_fz de_int da_nil)))) da_nil)))))) (by decide))
    (dss_cons (ds_if (dt_cmp (op_eqX hr.units) eqX_r2 (de_r (dr_call T.D__law_take ((ok__law_take T).up (by decide)) hr hgd tk rfl (da_rf (pv 0) (da_fz de_int da_nil)))) de_int (nomark _))
    (dss_one (ds_set (i := 3) sc__law_right.nd rfl (.inl rfl) (de_r (dr_call T.D__law_true ((ok__law_true T).up (by decide)) hr hgd tk rfl (da_rf (pv 0) (da_fz (de_r (dr_call T.D__law_tree ((ok__law_tree T).up (by decide)) hr hgd tk rfl (da_rf (pv 0) (da_fz (de_var (pv 2)) (da_fz de_int da_nil))))) (da_fz de_int (da_fz (de_r (dr_call T.D__law_take ((ok__law_take T).up (by decide)) hr hgd tk rfl (da_rf (pv 0) (da_fz de_int da_nil)))) da_nil)))))) (by decide)))
    dss_nil)
    (dss_cons (ds_set (i := 4) sc__law_right.nd rfl (.inl rfl) (de_r (dr_call T.D__law_keeping ((ok__law_keeping T).up (by decide)) hr hgd tk rfl (da_fz (de_var (pv 1)) (da_fz (de_var (pv 3)) da_nil)))) (by decide))
    (dss_cons (ds_set (i := 5) sc__law_right.nd rfl (.inl rfl) (de_cmp (op_neX hr.units) neX_r2 (de_var (pv 4)) (de_own (do_lst ds_nil)) (nomark _)) (by decide))
    (dss_cons (ds_set (i := 6) sc__law_right.nd rfl (.inl rfl) (de_own (do_lst (ds_cons (de_r (dr_call T.D_is_possible ((ok_is_possible T).up (by decide)) hr hgd tk rfl (da_fz (de_var (pv 2)) (da_fz (de_var (pv 3)) da_nil)))) (ds_cons (de_r (dr_callK0 T.D_is_possible ((ok_is_possible T).up (by decide)) hr hgd tk rfl (T.kb_is_possible_0_told_items) (dk_fz (de_var (pv 3)) (dk_fz (de_var (pv 2)) dk_nil)) rfl rfl rfl (by decide) rfl (len1 (len1 len0)))) ds_nil)))) (by decide))
    (dss_cons (ds_if (dt_w (dw_or (dt_not (dt_val (de_r (dr_call T.D__law_same (ok__law_same T) hr hgd tk rfl (da_fz (de_var (pv 6)) (da_fz (de_own (do_lst (ds_cons (de_var (pv 5)) (ds_cons (de_var (pv 5)) ds_nil)))) da_nil)))))) (dw_or1 (dt_cmp (op_neX hr.units) neX_r2 (de_cmp op_isN isD_r2 (de_r (dr_callK0 T.D_conflict ((ok_conflict T).up (by decide)) hr hgd tk rfl (T.kb_conflict_0_items_told) (dk_fz (de_var (pv 2)) (dk_fz (de_var (pv 3)) dk_nil)) rfl rfl rfl (by decide) rfl (len1 (len1 len0)))) de_none (nomark _)) (de_var (pv 5)) (nomark _)))))
    (dss_one (ds_ret de_bool))
    dss_nil)
    (dss_cons (ds_for (passes_of rfl) rfl (di_seq (de_own (do_lst (ds_cons (de_ix ix_seq ixD_r2 (de_var (pv 1)) (de_r (dr_call T.D__law_take ((ok__law_take T).up (by decide)) hr hgd tk rfl (da_rf (pv 0) (da_fz (de_callB DL.call_lenD DL.lenD_n rfl T.n_len (by decide +kernel) (ds_cons (de_var (pv 1)) ds_nil)) da_nil)))) (fun _ _ => rfl)) (ds_cons (de_if (dt_val (de_var (pv 5))) (de_ix ix_seq ixD_r2 (de_var (pv 4)) de_int (fun _ _ => rfl)) (de_ix ix_seq ixD_r2 (de_var (pv 1)) de_int (fun _ _ => rfl))) ds_nil))))) (dg_nm (pg_name (i := 7) sc__law_right.nd rfl (.inl rfl)))
    (dss_one (ds_if (dt_not (dt_val (de_r (dr_call T.D__law_same (ok__law_same T) hr hgd tk rfl (da_fz (de_own (do_lst (ds_cons (de_r (dr_call T.D_keeps ((ok_keeps T).up (by decide)) hr hgd tk rfl (da_fz (de_var (pv 7)) (da_fz (de_var (pv 3)) da_nil)))) (ds_cons (de_r (dr_callK0 T.D_keeps ((ok_keeps T).up (by decide)) hr hgd tk rfl (T.kb_keeps_0_told_history) (dk_fz (de_var (pv 3)) (dk_fz (de_var (pv 7)) dk_nil)) rfl rfl rfl (by decide) rfl (len1 (len1 len0)))) ds_nil)))) (da_fz (de_bin op_mulD mulD_r2 (de_own (do_lst (ds_cons (de_cmp (op_inDD (hu65 hr)) inDD_r2 (de_var (pv 7)) (de_var (pv 4)) rfl) ds_nil))) de_int) da_nil))))))
    (dss_one (ds_ret de_bool))
    dss_nil)) (by decide))
    (dss_cons (ds_if (dt_not (dt_val (de_var (pv 5))))
    (dss_one (ds_ret de_bool))
    dss_nil)
    (dss_cons (ds_set (i := 8) sc__law_right.nd rfl (.inl rfl) (de_r (dr_call T.D__law_least ((ok__law_least T).up (by decide)) hr hgd tk rfl (da_fz (de_var (pv 4)) da_nil))) (by decide))
    (dss_one (ds_ret (de_r (dr_call T.D__law_same (ok__law_same T) hr hgd tk rfl (da_fz (de_own (do_lst (ds_cons (de_r (dr_call T.D_earliest ((ok_earliest T).up (by decide)) hr hgd tk rfl (da_fz (de_var (pv 2)) (da_fz (de_var (pv 3)) da_nil)))) (ds_cons (de_r (dr_callK0 T.D_earliest ((ok_earliest T).up (by decide)) hr hgd tk rfl (T.kb_earliest_0_told_items) (dk_fz (de_var (pv 3)) (dk_fz (de_var (pv 2)) dk_nil)) rfl rfl rfl (by decide) rfl (len1 (len1 len0)))) ds_nil)))) (da_fz (de_own (do_lst (ds_cons (de_var (pv 8)) (ds_cons (de_var (pv 8)) ds_nil)))) da_nil)))))))))))))))
theorem ok_law (T : Txt K mg) : FnG P w K mg base 9 T.a_law T.fd_law ["script"] m_law := by
  unfold m_law
  refine fn_bodyP (k := 8) (Pr := []) (b := b_law) (n := 1) (NL := 7) (N := ["script", "every", "k", "bag", "many", "turn", "heard"]) T.F_law sc_law rfl rfl fun cdv A outer s H E hr hgd => ?_
  have tk := L2N.takes_of (X := cxOf (L2N.CX P w) P w K mg base ["script", "every", "k", "bag", "many", "turn", "heard"] "law" (defScope s_law) T.a_law cdv A outer s H E) rfl rfl rfl rfl
  exact (dss_cons (ds_set (i := 1) sc_law.nd rfl (.inl rfl) (de_own (do_lst (ds_cons de_none (ds_cons de_none (ds_cons (de_r (dr_call T.D__law_all ((ok__law_all T).up (by decide)) hr hgd tk rfl (da_fz de_int (da_fz de_int da_nil)))) (ds_cons (de_r (dr_call T.D__law_all ((ok__law_all T).up (by decide)) hr hgd tk rfl (da_fz de_int (da_fz de_int da_nil)))) (ds_cons (de_r (dr_call T.D__law_all ((ok__law_all T).up (by decide)) hr hgd tk rfl (da_fz de_int (da_fz de_int da_nil)))) ds_nil))))))) (by decide))
    (dss_cons (ds_for (passes_of rfl) rfl (di_rng1 rfl T.n_range (ds_cons (de_callB (call_maxD rfl) maxD_n rfl T.n_max (by decide +kernel) (ds_cons de_int (ds_cons (de_callB (call_minD rfl) minD_n rfl T.n_min (by decide +kernel) (ds_cons de_int (ds_cons (de_callB DL.call_lenD DL.lenD_n rfl T.n_len (by decide +kernel) (ds_cons (de_var (pv 0)) ds_nil)) ds_nil))) ds_nil))) ds_nil)) (dg_nm (pg_name (i := 2) sc_law.nd rfl (.inl rfl)))
    (dss_cons (ds_setO (i := 3) sc_law.nd rfl (.inl rfl) (do_r (dr_call T.D__law_bag ((ok__law_bag T).up (by decide)) hr hgd tk rfl (da_fz (de_r (dr_call T.D__law_cell_at ((ok__law_cell_at T).up (by decide)) hr hgd tk rfl (da_fz (de_var (pv 0)) (da_fz (de_var (pv 2)) da_nil)))) (da_fz (de_var (pv 2)) da_nil)))) (by decide))
    (dss_one (ds_for (passes_of rfl) rfl (di_seq (de_own (do_lst (ds_cons de_int (ds_cons de_int (ds_cons de_int (ds_cons de_int (ds_cons de_int (ds_cons de_int ds_nil))))))))) (dg_nm (pg_name (i := 4) sc_law.nd rfl (.inl rfl)))
    (dss_one (ds_for (passes_of rfl) rfl (di_rng1 rfl T.n_range (ds_cons de_int ds_nil)) (dg_nm (pg_name (i := 5) sc_law.nd rfl (.inl rfl)))
    (dss_one (ds_if (dt_not (dt_val (de_r (dr_call T.D__law_right (ok__law_right T) hr hgd tk rfl (da_rf (pv 3) (da_fz (de_ix ix_seq ixD_r2 (de_var (pv 1)) (de_var (pv 4)) (fun _ _ => rfl)) (da_fz (de_var (pv 4)) da_nil)))))))
    (dss_one (ds_ret de_bool))
    dss_nil)) (by decide))) (by decide)))) (by decide))
    (dss_cons (ds_set (i := 6) sc_law.nd rfl (.inl rfl) (de_own (do_lst (ds_cons (de_r (dr_call T.D_is_possible ((ok_is_possible T).up (by decide)) hr hgd tk rfl (da_fz de_int (da_fz (de_tup ds_nil) da_nil)))) (ds_cons (de_r (dr_call T.D_earliest ((ok_earliest T).up (by decide)) hr hgd tk rfl (da_fz de_int (da_fz (de_tup ds_nil) da_nil)))) (ds_cons (de_r (dr_call T.D_earliest ((ok_earliest T).up (by decide)) hr hgd tk rfl (da_fz de_int (da_fz (de_tup (ds_cons (de_tup (ds_cons de_int (ds_cons de_int (ds_cons de_int (ds_cons de_none ds_nil))))) (ds_cons (de_tup (ds_cons de_int (ds_cons de_int (ds_cons de_int (ds_cons de_int ds_nil))))) ds_nil))) da_nil)))) (ds_cons (de_r (dr_call T.D_conflict ((ok_conflict T).up (by decide)) hr hgd tk rfl (da_fz de_int (da_fz (de_tup ds_nil) da_nil)))) ds_nil)))))) (by decide))
    (dss_one (ds_ret (de_r (dr_call T.D__law_same ((ok__law_same T).up (by decide)) hr hgd tk rfl (da_fz (de_var (pv 6)) (da_fz (de_own (do_lst (ds_cons de_bool (ds_cons (de_tup (ds_cons (de_tup ds_nil) ds_nil)) (ds_cons (de_tup (ds_cons (de_tup ds_nil) (ds_cons (de_tup (ds_cons de_int ds_nil)) (ds_cons (de_tup (ds_cons de_int (ds_cons de_int ds_nil))) ds_nil)))) (ds_cons de_none ds_nil)))))) da_nil)))))))))
end
theorem txt_mk {K : PySem.W.Frag} {h : Heap} {mg : Str → Option Value} (X : K.In h) (G : h.Ns mainGlobals mg)
    {f0 : Addr} {oc0 kV0 dc0 pm0 cd0 ct0 : Value} {od0 an0 : Option Addr} {sl0 : Array (Option Value)}
    (a0 : PySem.W.nsIn K mainGlobals "day_in" = some (some (.ref f0))) (l0 : K.lookup f0 = some ⟨oc0, od0, .func (PySem.W.fnOf "day_in" "day_in" (defArgs s_day_in) (defBody s_day_in) (defScope s_day_in) .none kV0 dc0 pm0 an0 cd0 ct0), sl0⟩)
    (c0 : PySem.W.codeIn K cd0 "day_in" = true) (k0 : PySem.W.keepIn K (.ref f0) = true)
    {f1 : Addr} {oc1 kV1 dc1 pm1 cd1 ct1 : Value} {od1 an1 : Option Addr} {sl1 : Array (Option Value)}
    (a1 : PySem.W.nsIn K mainGlobals "widened" = some (some (.ref f1))) (l1 : K.lookup f1 = some ⟨oc1, od1, .func (PySem.W.fnOf "widened" "widened" (defArgs s_widened) (defBody s_widened) (defScope s_widened) .none kV1 dc1 pm1 an1 cd1 ct1), sl1⟩)
    (c1 : PySem.W.codeIn K cd1 "widened" = true) (k1 : PySem.W.keepIn K (.ref f1) = true)
    {f2 : Addr} {oc2 kV2 dc2 pm2 cd2 ct2 : Value} {od2 an2 : Option Addr} {sl2 : Array (Option Value)}
    (a2 : PySem.W.nsIn K mainGlobals "closed" = some (some (.ref f2))) (l2 : K.lookup f2 = some ⟨oc2, od2, .func (PySem.W.fnOf "closed" "closed" (defArgs s_closed) (defBody s_closed) (defScope s_closed) .none kV2 dc2 pm2 an2 cd2 ct2), sl2⟩)
    (c2 : PySem.W.codeIn K cd2 "closed" = true) (k2 : PySem.W.keepIn K (.ref f2) = true)
    {f3 : Addr} {oc3 kV3 dc3 pm3 cd3 ct3 : Value} {od3 an3 : Option Addr} {sl3 : Array (Option Value)}
    (a3 : PySem.W.nsIn K mainGlobals "low_of" = some (some (.ref f3))) (l3 : K.lookup f3 = some ⟨oc3, od3, .func (PySem.W.fnOf "low_of" "low_of" (defArgs s_low_of) (defBody s_low_of) (defScope s_low_of) .none kV3 dc3 pm3 an3 cd3 ct3), sl3⟩)
    (c3 : PySem.W.codeIn K cd3 "low_of" = true) (k3 : PySem.W.keepIn K (.ref f3) = true)
    {f4 : Addr} {oc4 kV4 dc4 pm4 cd4 ct4 : Value} {od4 an4 : Option Addr} {sl4 : Array (Option Value)}
    (a4 : PySem.W.nsIn K mainGlobals "lows_of" = some (some (.ref f4))) (l4 : K.lookup f4 = some ⟨oc4, od4, .func (PySem.W.fnOf "lows_of" "lows_of" (defArgs s_lows_of) (defBody s_lows_of) (defScope s_lows_of) .none kV4 dc4 pm4 an4 cd4 ct4), sl4⟩)
    (c4 : PySem.W.codeIn K cd4 "lows_of" = true) (k4 : PySem.W.keepIn K (.ref f4) = true)
    {f5 : Addr} {oc5 kV5 dc5 pm5 cd5 ct5 : Value} {od5 an5 : Option Addr} {sl5 : Array (Option Value)}
    (a5 : PySem.W.nsIn K mainGlobals "is_broken" = some (some (.ref f5))) (l5 : K.lookup f5 = some ⟨oc5, od5, .func (PySem.W.fnOf "is_broken" "is_broken" (defArgs s_is_broken) (defBody s_is_broken) (defScope s_is_broken) .none kV5 dc5 pm5 an5 cd5 ct5), sl5⟩)
    (c5 : PySem.W.codeIn K cd5 "is_broken" = true) (k5 : PySem.W.keepIn K (.ref f5) = true)
    {f6 : Addr} {oc6 kV6 dc6 pm6 cd6 ct6 : Value} {od6 an6 : Option Addr} {sl6 : Array (Option Value)}
    (a6 : PySem.W.nsIn K mainGlobals "broken_index" = some (some (.ref f6))) (l6 : K.lookup f6 = some ⟨oc6, od6, .func (PySem.W.fnOf "broken_index" "broken_index" (defArgs s_broken_index) (defBody s_broken_index) (defScope s_broken_index) .none kV6 dc6 pm6 an6 cd6 ct6), sl6⟩)
    (c6 : PySem.W.codeIn K cd6 "broken_index" = true) (k6 : PySem.W.keepIn K (.ref f6) = true)
    {f7 : Addr} {oc7 kV7 dc7 pm7 cd7 ct7 : Value} {od7 an7 : Option Addr} {sl7 : Array (Option Value)}
    (a7 : PySem.W.nsIn K mainGlobals "is_integer" = some (some (.ref f7))) (l7 : K.lookup f7 = some ⟨oc7, od7, .func (PySem.W.fnOf "is_integer" "is_integer" (defArgs s_is_integer) (defBody s_is_integer) (defScope s_is_integer) .none kV7 dc7 pm7 an7 cd7 ct7), sl7⟩)
    (c7 : PySem.W.codeIn K cd7 "is_integer" = true) (k7 : PySem.W.keepIn K (.ref f7) = true)
    {f8 : Addr} {oc8 kV8 dc8 pm8 cd8 ct8 : Value} {od8 an8 : Option Addr} {sl8 : Array (Option Value)}
    (a8 : PySem.W.nsIn K mainGlobals "check_number" = some (some (.ref f8))) (l8 : K.lookup f8 = some ⟨oc8, od8, .func (PySem.W.fnOf "check_number" "check_number" (defArgs s_check_number) (defBody s_check_number) (defScope s_check_number) .none kV8 dc8 pm8 an8 cd8 ct8), sl8⟩)
    (c8 : PySem.W.codeIn K cd8 "check_number" = true) (k8 : PySem.W.keepIn K (.ref f8) = true)
    {f9 : Addr} {oc9 kV9 dc9 pm9 cd9 ct9 : Value} {od9 an9 : Option Addr} {sl9 : Array (Option Value)}
    (a9 : PySem.W.nsIn K mainGlobals "is_bound" = some (some (.ref f9))) (l9 : K.lookup f9 = some ⟨oc9, od9, .func (PySem.W.fnOf "is_bound" "is_bound" (defArgs s_is_bound) (defBody s_is_bound) (defScope s_is_bound) .none kV9 dc9 pm9 an9 cd9 ct9), sl9⟩)
    (c9 : PySem.W.codeIn K cd9 "is_bound" = true) (k9 : PySem.W.keepIn K (.ref f9) = true)
    {f10 : Addr} {oc10 kV10 dc10 pm10 cd10 ct10 : Value} {od10 an10 : Option Addr} {sl10 : Array (Option Value)}
    (a10 : PySem.W.nsIn K mainGlobals "check_told" = some (some (.ref f10))) (l10 : K.lookup f10 = some ⟨oc10, od10, .func (PySem.W.fnOf "check_told" "check_told" (defArgs s_check_told) (defBody s_check_told) (defScope s_check_told) .none kV10 dc10 pm10 an10 cd10 ct10), sl10⟩)
    (c10 : PySem.W.codeIn K cd10 "check_told" = true) (k10 : PySem.W.keepIn K (.ref f10) = true)
    {f11 : Addr} {oc11 kV11 dc11 pm11 cd11 ct11 : Value} {od11 an11 : Option Addr} {sl11 : Array (Option Value)}
    (a11 : PySem.W.nsIn K mainGlobals "check_both" = some (some (.ref f11))) (l11 : K.lookup f11 = some ⟨oc11, od11, .func (PySem.W.fnOf "check_both" "check_both" (defArgs s_check_both) (defBody s_check_both) (defScope s_check_both) .none kV11 dc11 pm11 an11 cd11 ct11), sl11⟩)
    (c11 : PySem.W.codeIn K cd11 "check_both" = true) (k11 : PySem.W.keepIn K (.ref f11) = true)
    {f12 : Addr} {oc12 kV12 dc12 pm12 cd12 ct12 : Value} {od12 an12 : Option Addr} {sl12 : Array (Option Value)}
    (a12 : PySem.W.nsIn K mainGlobals "is_possible" = some (some (.ref f12))) (l12 : K.lookup f12 = some ⟨oc12, od12, .func (PySem.W.fnOf "is_possible" "is_possible" (defArgs s_is_possible) (defBody s_is_possible) (defScope s_is_possible) .none kV12 dc12 pm12 an12 cd12 ct12), sl12⟩)
    (c12 : PySem.W.codeIn K cd12 "is_possible" = true) (k12 : PySem.W.keepIn K (.ref f12) = true)
    {f13 : Addr} {oc13 kV13 dc13 pm13 cd13 ct13 : Value} {od13 an13 : Option Addr} {sl13 : Array (Option Value)}
    (a13 : PySem.W.nsIn K mainGlobals "chain_above" = some (some (.ref f13))) (l13 : K.lookup f13 = some ⟨oc13, od13, .func (PySem.W.fnOf "chain_above" "chain_above" (defArgs s_chain_above) (defBody s_chain_above) (defScope s_chain_above) .none kV13 dc13 pm13 an13 cd13 ct13), sl13⟩)
    (c13 : PySem.W.codeIn K cd13 "chain_above" = true) (k13 : PySem.W.keepIn K (.ref f13) = true)
    {f14 : Addr} {oc14 kV14 dc14 pm14 cd14 ct14 : Value} {od14 an14 : Option Addr} {sl14 : Array (Option Value)}
    (a14 : PySem.W.nsIn K mainGlobals "conflict_in" = some (some (.ref f14))) (l14 : K.lookup f14 = some ⟨oc14, od14, .func (PySem.W.fnOf "conflict_in" "conflict_in" (defArgs s_conflict_in) (defBody s_conflict_in) (defScope s_conflict_in) .none kV14 dc14 pm14 an14 cd14 ct14), sl14⟩)
    (c14 : PySem.W.codeIn K cd14 "conflict_in" = true) (k14 : PySem.W.keepIn K (.ref f14) = true)
    {f15 : Addr} {oc15 kV15 dc15 pm15 cd15 ct15 : Value} {od15 an15 : Option Addr} {sl15 : Array (Option Value)}
    (a15 : PySem.W.nsIn K mainGlobals "conflict" = some (some (.ref f15))) (l15 : K.lookup f15 = some ⟨oc15, od15, .func (PySem.W.fnOf "conflict" "conflict" (defArgs s_conflict) (defBody s_conflict) (defScope s_conflict) .none kV15 dc15 pm15 an15 cd15 ct15), sl15⟩)
    (c15 : PySem.W.codeIn K cd15 "conflict" = true) (k15 : PySem.W.keepIn K (.ref f15) = true)
    {f16 : Addr} {oc16 kV16 dc16 pm16 cd16 ct16 : Value} {od16 an16 : Option Addr} {sl16 : Array (Option Value)}
    (a16 : PySem.W.nsIn K mainGlobals "possible_days" = some (some (.ref f16))) (l16 : K.lookup f16 = some ⟨oc16, od16, .func (PySem.W.fnOf "possible_days" "possible_days" (defArgs s_possible_days) (defBody s_possible_days) (defScope s_possible_days) .none kV16 dc16 pm16 an16 cd16 ct16), sl16⟩)
    (c16 : PySem.W.codeIn K cd16 "possible_days" = true) (k16 : PySem.W.keepIn K (.ref f16) = true)
    {f17 : Addr} {oc17 kV17 dc17 pm17 cd17 ct17 : Value} {od17 an17 : Option Addr} {sl17 : Array (Option Value)}
    (a17 : PySem.W.nsIn K mainGlobals "earliest" = some (some (.ref f17))) (l17 : K.lookup f17 = some ⟨oc17, od17, .func (PySem.W.fnOf "earliest" "earliest" (defArgs s_earliest) (defBody s_earliest) (defScope s_earliest) .none kV17 dc17 pm17 an17 cd17 ct17), sl17⟩)
    (c17 : PySem.W.codeIn K cd17 "earliest" = true) (k17 : PySem.W.keepIn K (.ref f17) = true)
    {f18 : Addr} {oc18 kV18 dc18 pm18 cd18 ct18 : Value} {od18 an18 : Option Addr} {sl18 : Array (Option Value)}
    (a18 : PySem.W.nsIn K mainGlobals "_law_cell_at" = some (some (.ref f18))) (l18 : K.lookup f18 = some ⟨oc18, od18, .func (PySem.W.fnOf "_law_cell_at" "_law_cell_at" (defArgs s__law_cell_at) (defBody s__law_cell_at) (defScope s__law_cell_at) .none kV18 dc18 pm18 an18 cd18 ct18), sl18⟩)
    (c18 : PySem.W.codeIn K cd18 "_law_cell_at" = true) (k18 : PySem.W.keepIn K (.ref f18) = true)
    {f19 : Addr} {oc19 kV19 dc19 pm19 cd19 ct19 : Value} {od19 an19 : Option Addr} {sl19 : Array (Option Value)}
    (a19 : PySem.W.nsIn K mainGlobals "_law_same" = some (some (.ref f19))) (l19 : K.lookup f19 = some ⟨oc19, od19, .func (PySem.W.fnOf "_law_same" "_law_same" (defArgs s__law_same) (defBody s__law_same) (defScope s__law_same) .none kV19 dc19 pm19 an19 cd19 ct19), sl19⟩)
    (c19 : PySem.W.codeIn K cd19 "_law_same" = true) (k19 : PySem.W.keepIn K (.ref f19) = true)
    {f20 : Addr} {oc20 kV20 dc20 pm20 cd20 ct20 : Value} {od20 an20 : Option Addr} {sl20 : Array (Option Value)}
    (a20 : PySem.W.nsIn K mainGlobals "_law_bag" = some (some (.ref f20))) (l20 : K.lookup f20 = some ⟨oc20, od20, .func (PySem.W.fnOf "_law_bag" "_law_bag" (defArgs s__law_bag) (defBody s__law_bag) (defScope s__law_bag) .none kV20 dc20 pm20 an20 cd20 ct20), sl20⟩)
    (c20 : PySem.W.codeIn K cd20 "_law_bag" = true) (k20 : PySem.W.keepIn K (.ref f20) = true)
    {f21 : Addr} {oc21 kV21 dc21 pm21 cd21 ct21 : Value} {od21 an21 : Option Addr} {sl21 : Array (Option Value)}
    (a21 : PySem.W.nsIn K mainGlobals "_law_day" = some (some (.ref f21))) (l21 : K.lookup f21 = some ⟨oc21, od21, .func (PySem.W.fnOf "_law_day" "_law_day" (defArgs s__law_day) (defBody s__law_day) (defScope s__law_day) .none kV21 dc21 pm21 an21 cd21 ct21), sl21⟩)
    (c21 : PySem.W.codeIn K cd21 "_law_day" = true) (k21 : PySem.W.keepIn K (.ref f21) = true)
    {f22 : Addr} {oc22 kV22 dc22 pm22 cd22 ct22 : Value} {od22 an22 : Option Addr} {sl22 : Array (Option Value)}
    (a22 : PySem.W.nsIn K mainGlobals "_law_all" = some (some (.ref f22))) (l22 : K.lookup f22 = some ⟨oc22, od22, .func (PySem.W.fnOf "_law_all" "_law_all" (defArgs s__law_all) (defBody s__law_all) (defScope s__law_all) .none kV22 dc22 pm22 an22 cd22 ct22), sl22⟩)
    (c22 : PySem.W.codeIn K cd22 "_law_all" = true) (k22 : PySem.W.keepIn K (.ref f22) = true)
    {f23 : Addr} {oc23 kV23 dc23 pm23 cd23 ct23 : Value} {od23 an23 : Option Addr} {sl23 : Array (Option Value)}
    (a23 : PySem.W.nsIn K mainGlobals "is_row" = some (some (.ref f23))) (l23 : K.lookup f23 = some ⟨oc23, od23, .func (PySem.W.fnOf "is_row" "is_row" (defArgs s_is_row) (defBody s_is_row) (defScope s_is_row) .none kV23 dc23 pm23 an23 cd23 ct23), sl23⟩)
    (c23 : PySem.W.codeIn K cd23 "is_row" = true) (k23 : PySem.W.keepIn K (.ref f23) = true)
    {f24 : Addr} {oc24 kV24 dc24 pm24 cd24 ct24 : Value} {od24 an24 : Option Addr} {sl24 : Array (Option Value)}
    (a24 : PySem.W.nsIn K mainGlobals "is_table" = some (some (.ref f24))) (l24 : K.lookup f24 = some ⟨oc24, od24, .func (PySem.W.fnOf "is_table" "is_table" (defArgs s_is_table) (defBody s_is_table) (defScope s_is_table) .none kV24 dc24 pm24 an24 cd24 ct24), sl24⟩)
    (c24 : PySem.W.codeIn K cd24 "is_table" = true) (k24 : PySem.W.keepIn K (.ref f24) = true)
    {f25 : Addr} {oc25 kV25 dc25 pm25 cd25 ct25 : Value} {od25 an25 : Option Addr} {sl25 : Array (Option Value)}
    (a25 : PySem.W.nsIn K mainGlobals "bad_in" = some (some (.ref f25))) (l25 : K.lookup f25 = some ⟨oc25, od25, .func (PySem.W.fnOf "bad_in" "bad_in" (defArgs s_bad_in) (defBody s_bad_in) (defScope s_bad_in) .none kV25 dc25 pm25 an25 cd25 ct25), sl25⟩)
    (c25 : PySem.W.codeIn K cd25 "bad_in" = true) (k25 : PySem.W.keepIn K (.ref f25) = true)
    {f26 : Addr} {oc26 kV26 dc26 pm26 cd26 ct26 : Value} {od26 an26 : Option Addr} {sl26 : Array (Option Value)}
    (a26 : PySem.W.nsIn K mainGlobals "is_history" = some (some (.ref f26))) (l26 : K.lookup f26 = some ⟨oc26, od26, .func (PySem.W.fnOf "is_history" "is_history" (defArgs s_is_history) (defBody s_is_history) (defScope s_is_history) .none kV26 dc26 pm26 an26 cd26 ct26), sl26⟩)
    (c26 : PySem.W.codeIn K cd26 "is_history" = true) (k26 : PySem.W.keepIn K (.ref f26) = true)
    {f27 : Addr} {oc27 kV27 dc27 pm27 cd27 ct27 : Value} {od27 an27 : Option Addr} {sl27 : Array (Option Value)}
    (a27 : PySem.W.nsIn K mainGlobals "check_history" = some (some (.ref f27))) (l27 : K.lookup f27 = some ⟨oc27, od27, .func (PySem.W.fnOf "check_history" "check_history" (defArgs s_check_history) (defBody s_check_history) (defScope s_check_history) .none kV27 dc27 pm27 an27 cd27 ct27), sl27⟩)
    (c27 : PySem.W.codeIn K cd27 "check_history" = true) (k27 : PySem.W.keepIn K (.ref f27) = true)
    {f28 : Addr} {oc28 kV28 dc28 pm28 cd28 ct28 : Value} {od28 an28 : Option Addr} {sl28 : Array (Option Value)}
    (a28 : PySem.W.nsIn K mainGlobals "is_kept" = some (some (.ref f28))) (l28 : K.lookup f28 = some ⟨oc28, od28, .func (PySem.W.fnOf "is_kept" "is_kept" (defArgs s_is_kept) (defBody s_is_kept) (defScope s_is_kept) .none kV28 dc28 pm28 an28 cd28 ct28), sl28⟩)
    (c28 : PySem.W.codeIn K cd28 "is_kept" = true) (k28 : PySem.W.keepIn K (.ref f28) = true)
    {f29 : Addr} {oc29 kV29 dc29 pm29 cd29 ct29 : Value} {od29 an29 : Option Addr} {sl29 : Array (Option Value)}
    (a29 : PySem.W.nsIn K mainGlobals "keeps" = some (some (.ref f29))) (l29 : K.lookup f29 = some ⟨oc29, od29, .func (PySem.W.fnOf "keeps" "keeps" (defArgs s_keeps) (defBody s_keeps) (defScope s_keeps) .none kV29 dc29 pm29 an29 cd29 ct29), sl29⟩)
    (c29 : PySem.W.codeIn K cd29 "keeps" = true) (k29 : PySem.W.keepIn K (.ref f29) = true)
    {f30 : Addr} {oc30 kV30 dc30 pm30 cd30 ct30 : Value} {od30 an30 : Option Addr} {sl30 : Array (Option Value)}
    (a30 : PySem.W.nsIn K mainGlobals "_law_take" = some (some (.ref f30))) (l30 : K.lookup f30 = some ⟨oc30, od30, .func (PySem.W.fnOf "_law_take" "_law_take" (defArgs s__law_take) (defBody s__law_take) (defScope s__law_take) .none kV30 dc30 pm30 an30 cd30 ct30), sl30⟩)
    (c30 : PySem.W.codeIn K cd30 "_law_take" = true) (k30 : PySem.W.keepIn K (.ref f30) = true)
    {f31 : Addr} {oc31 kV31 dc31 pm31 cd31 ct31 : Value} {od31 an31 : Option Addr} {sl31 : Array (Option Value)}
    (a31 : PySem.W.nsIn K mainGlobals "_law_holds" = some (some (.ref f31))) (l31 : K.lookup f31 = some ⟨oc31, od31, .func (PySem.W.fnOf "_law_holds" "_law_holds" (defArgs s__law_holds) (defBody s__law_holds) (defScope s__law_holds) .none kV31 dc31 pm31 an31 cd31 ct31), sl31⟩)
    (c31 : PySem.W.codeIn K cd31 "_law_holds" = true) (k31 : PySem.W.keepIn K (.ref f31) = true)
    {f32 : Addr} {oc32 kV32 dc32 pm32 cd32 ct32 : Value} {od32 an32 : Option Addr} {sl32 : Array (Option Value)}
    (a32 : PySem.W.nsIn K mainGlobals "_law_keeping" = some (some (.ref f32))) (l32 : K.lookup f32 = some ⟨oc32, od32, .func (PySem.W.fnOf "_law_keeping" "_law_keeping" (defArgs s__law_keeping) (defBody s__law_keeping) (defScope s__law_keeping) .none kV32 dc32 pm32 an32 cd32 ct32), sl32⟩)
    (c32 : PySem.W.codeIn K cd32 "_law_keeping" = true) (k32 : PySem.W.keepIn K (.ref f32) = true)
    {f33 : Addr} {oc33 kV33 dc33 pm33 cd33 ct33 : Value} {od33 an33 : Option Addr} {sl33 : Array (Option Value)}
    (a33 : PySem.W.nsIn K mainGlobals "_law_least" = some (some (.ref f33))) (l33 : K.lookup f33 = some ⟨oc33, od33, .func (PySem.W.fnOf "_law_least" "_law_least" (defArgs s__law_least) (defBody s__law_least) (defScope s__law_least) .none kV33 dc33 pm33 an33 cd33 ct33), sl33⟩)
    (c33 : PySem.W.codeIn K cd33 "_law_least" = true) (k33 : PySem.W.keepIn K (.ref f33) = true)
    {f34 : Addr} {oc34 kV34 dc34 pm34 cd34 ct34 : Value} {od34 an34 : Option Addr} {sl34 : Array (Option Value)}
    (a34 : PySem.W.nsIn K mainGlobals "_law_pair" = some (some (.ref f34))) (l34 : K.lookup f34 = some ⟨oc34, od34, .func (PySem.W.fnOf "_law_pair" "_law_pair" (defArgs s__law_pair) (defBody s__law_pair) (defScope s__law_pair) .none kV34 dc34 pm34 an34 cd34 ct34), sl34⟩)
    (c34 : PySem.W.codeIn K cd34 "_law_pair" = true) (k34 : PySem.W.keepIn K (.ref f34) = true)
    {f35 : Addr} {oc35 kV35 dc35 pm35 cd35 ct35 : Value} {od35 an35 : Option Addr} {sl35 : Array (Option Value)}
    (a35 : PySem.W.nsIn K mainGlobals "_law_wild" = some (some (.ref f35))) (l35 : K.lookup f35 = some ⟨oc35, od35, .func (PySem.W.fnOf "_law_wild" "_law_wild" (defArgs s__law_wild) (defBody s__law_wild) (defScope s__law_wild) .none kV35 dc35 pm35 an35 cd35 ct35), sl35⟩)
    (c35 : PySem.W.codeIn K cd35 "_law_wild" = true) (k35 : PySem.W.keepIn K (.ref f35) = true)
    {f36 : Addr} {oc36 kV36 dc36 pm36 cd36 ct36 : Value} {od36 an36 : Option Addr} {sl36 : Array (Option Value)}
    (a36 : PySem.W.nsIn K mainGlobals "_law_tree" = some (some (.ref f36))) (l36 : K.lookup f36 = some ⟨oc36, od36, .func (PySem.W.fnOf "_law_tree" "_law_tree" (defArgs s__law_tree) (defBody s__law_tree) (defScope s__law_tree) .none kV36 dc36 pm36 an36 cd36 ct36), sl36⟩)
    (c36 : PySem.W.codeIn K cd36 "_law_tree" = true) (k36 : PySem.W.keepIn K (.ref f36) = true)
    {f37 : Addr} {oc37 kV37 dc37 pm37 cd37 ct37 : Value} {od37 an37 : Option Addr} {sl37 : Array (Option Value)}
    (a37 : PySem.W.nsIn K mainGlobals "_law_true" = some (some (.ref f37))) (l37 : K.lookup f37 = some ⟨oc37, od37, .func (PySem.W.fnOf "_law_true" "_law_true" (defArgs s__law_true) (defBody s__law_true) (defScope s__law_true) .none kV37 dc37 pm37 an37 cd37 ct37), sl37⟩)
    (c37 : PySem.W.codeIn K cd37 "_law_true" = true) (k37 : PySem.W.keepIn K (.ref f37) = true)
    {f38 : Addr} {oc38 kV38 dc38 pm38 cd38 ct38 : Value} {od38 an38 : Option Addr} {sl38 : Array (Option Value)}
    (a38 : PySem.W.nsIn K mainGlobals "_law_right" = some (some (.ref f38))) (l38 : K.lookup f38 = some ⟨oc38, od38, .func (PySem.W.fnOf "_law_right" "_law_right" (defArgs s__law_right) (defBody s__law_right) (defScope s__law_right) .none kV38 dc38 pm38 an38 cd38 ct38), sl38⟩)
    (c38 : PySem.W.codeIn K cd38 "_law_right" = true) (k38 : PySem.W.keepIn K (.ref f38) = true)
    {f39 : Addr} {oc39 kV39 dc39 pm39 cd39 ct39 : Value} {od39 an39 : Option Addr} {sl39 : Array (Option Value)}
    (a39 : PySem.W.nsIn K mainGlobals "law" = some (some (.ref f39))) (l39 : K.lookup f39 = some ⟨oc39, od39, .func (PySem.W.fnOf "law" "law" (defArgs s_law) (defBody s_law) (defScope s_law) .none kV39 dc39 pm39 an39 cd39 ct39), sl39⟩)
    (c39 : PySem.W.codeIn K cd39 "law" = true) (k39 : PySem.W.keepIn K (.ref f39) = true)
    (z0 : PySem.W.nsIn K mainGlobals "all" = some none)
    (z1 : PySem.W.nsIn K mainGlobals "bool" = some none)
    (z2 : PySem.W.nsIn K mainGlobals "enumerate" = some none)
    (z3 : PySem.W.nsIn K mainGlobals "int" = some none)
    (z4 : PySem.W.nsIn K mainGlobals "isinstance" = some none)
    (z5 : PySem.W.nsIn K mainGlobals "len" = some none)
    (z6 : PySem.W.nsIn K mainGlobals "list" = some none)
    (z7 : PySem.W.nsIn K mainGlobals "max" = some none)
    (z8 : PySem.W.nsIn K mainGlobals "min" = some none)
    (z9 : PySem.W.nsIn K mainGlobals "range" = some none)
    (z10 : PySem.W.nsIn K mainGlobals "sorted" = some none)
    (z11 : PySem.W.nsIn K mainGlobals "tuple" = some none)
    (z12 : PySem.W.nsIn K mainGlobals "zip" = some none)
    : ∃ T : Txt K mg, mg "law" = some (.ref T.a_law) ∧ ∀ (s : Shared) (u : Value), BindsTo s T.fd_law ⟨[u], []⟩ [("script", u)] := by
  exact ⟨⟨f0,
    _,
    fun_mk (st := s_day_in) l0 c0 k0,
    ⟨PySem.W.mg_of X G a0, k0, fun s us hl => match us, hl with | [_, _, _], _ => .of_eq rfl⟩,
    f1,
    _,
    fun_mk (st := s_widened) l1 c1 k1,
    ⟨PySem.W.mg_of X G a1, k1, fun s us hl => match us, hl with | [_, _], _ => .of_eq rfl⟩,
    f2,
    _,
    fun_mk (st := s_closed) l2 c2 k2,
    ⟨PySem.W.mg_of X G a2, k2, fun s us hl => match us, hl with | [_], _ => .of_eq rfl⟩,
    f3,
    _,
    fun_mk (st := s_low_of) l3 c3 k3,
    ⟨PySem.W.mg_of X G a3, k3, fun s us hl => match us, hl with | [_, _, _], _ => .of_eq rfl⟩,
    f4,
    _,
    fun_mk (st := s_lows_of) l4 c4 k4,
    ⟨PySem.W.mg_of X G a4, k4, fun s us hl => match us, hl with | [_, _], _ => .of_eq rfl⟩,
    f5,
    _,
    fun_mk (st := s_is_broken) l5 c5 k5,
    ⟨PySem.W.mg_of X G a5, k5, fun s us hl => match us, hl with | [_, _], _ => .of_eq rfl⟩,
    f6,
    _,
    fun_mk (st := s_broken_index) l6 c6 k6,
    ⟨PySem.W.mg_of X G a6, k6, fun s us hl => match us, hl with | [_, _], _ => .of_eq rfl⟩,
    f7,
    _,
    fun_mk (st := s_is_integer) l7 c7 k7,
    ⟨PySem.W.mg_of X G a7, k7, fun s us hl => match us, hl with | [_, _, _], _ => .of_eq rfl⟩,
    f8,
    _,
    fun_mk (st := s_check_number) l8 c8 k8,
    ⟨PySem.W.mg_of X G a8, k8, fun s us hl => match us, hl with | [_], _ => .of_eq rfl⟩,
    f9,
    _,
    fun_mk (st := s_is_bound) l9 c9 k9,
    ⟨PySem.W.mg_of X G a9, k9, fun s us hl => match us, hl with | [_, _], _ => .of_eq rfl⟩,
    f10,
    _,
    fun_mk (st := s_check_told) l10 c10 k10,
    ⟨PySem.W.mg_of X G a10, k10, fun s us hl => match us, hl with | [_, _], _ => .of_eq rfl⟩,
    f11,
    _,
    fun_mk (st := s_check_both) l11 c11 k11,
    ⟨PySem.W.mg_of X G a11, k11, fun s us hl => match us, hl with | [_, _], _ => .of_eq rfl⟩,
    f12,
    _,
    fun_mk (st := s_is_possible) l12 c12 k12,
    ⟨PySem.W.mg_of X G a12, k12, fun s us hl => match us, hl with | [_, _], _ => .of_eq rfl⟩,
    f13,
    _,
    fun_mk (st := s_chain_above) l13 c13 k13,
    ⟨PySem.W.mg_of X G a13, k13, fun s us hl => match us, hl with | [_, _, _, _], _ => .of_eq rfl⟩,
    f14,
    _,
    fun_mk (st := s_conflict_in) l14 c14 k14,
    ⟨PySem.W.mg_of X G a14, k14, fun s us hl => match us, hl with | [_, _], _ => .of_eq rfl⟩,
    f15,
    _,
    fun_mk (st := s_conflict) l15 c15 k15,
    ⟨PySem.W.mg_of X G a15, k15, fun s us hl => match us, hl with | [_, _], _ => .of_eq rfl⟩,
    f16,
    _,
    fun_mk (st := s_possible_days) l16 c16 k16,
    ⟨PySem.W.mg_of X G a16, k16, fun s us hl => match us, hl with | [_, _], _ => .of_eq rfl⟩,
    f17,
    _,
    fun_mk (st := s_earliest) l17 c17 k17,
    ⟨PySem.W.mg_of X G a17, k17, fun s us hl => match us, hl with | [_, _], _ => .of_eq rfl⟩,
    f18,
    _,
    fun_mk (st := s__law_cell_at) l18 c18 k18,
    ⟨PySem.W.mg_of X G a18, k18, fun s us hl => match us, hl with | [_, _], _ => .of_eq rfl⟩,
    f19,
    _,
    fun_mk (st := s__law_same) l19 c19 k19,
    ⟨PySem.W.mg_of X G a19, k19, fun s us hl => match us, hl with | [_, _], _ => .of_eq rfl⟩,
    f20,
    _,
    fun_mk (st := s__law_bag) l20 c20 k20,
    ⟨PySem.W.mg_of X G a20, k20, fun s us hl => match us, hl with | [_, _], _ => .of_eq rfl⟩,
    f21,
    _,
    fun_mk (st := s__law_day) l21 c21 k21,
    ⟨PySem.W.mg_of X G a21, k21, fun s us hl => match us, hl with | [_, _, _], _ => .of_eq rfl⟩,
    f22,
    _,
    fun_mk (st := s__law_all) l22 c22 k22,
    ⟨PySem.W.mg_of X G a22, k22, fun s us hl => match us, hl with | [_, _], _ => .of_eq rfl⟩,
    f23,
    _,
    fun_mk (st := s_is_row) l23 c23 k23,
    ⟨PySem.W.mg_of X G a23, k23, fun s us hl => match us, hl with | [_, _], _ => .of_eq rfl⟩,
    f24,
    _,
    fun_mk (st := s_is_table) l24 c24 k24,
    ⟨PySem.W.mg_of X G a24, k24, fun s us hl => match us, hl with | [_], _ => .of_eq rfl⟩,
    f25,
    _,
    fun_mk (st := s_bad_in) l25 c25 k25,
    ⟨PySem.W.mg_of X G a25, k25, fun s us hl => match us, hl with | [_], _ => .of_eq rfl⟩,
    f26,
    _,
    fun_mk (st := s_is_history) l26 c26 k26,
    ⟨PySem.W.mg_of X G a26, k26, fun s us hl => match us, hl with | [_], _ => .of_eq rfl⟩,
    f27,
    _,
    fun_mk (st := s_check_history) l27 c27 k27,
    ⟨PySem.W.mg_of X G a27, k27, fun s us hl => match us, hl with | [_], _ => .of_eq rfl⟩,
    f28,
    _,
    fun_mk (st := s_is_kept) l28 c28 k28,
    ⟨PySem.W.mg_of X G a28, k28, fun s us hl => match us, hl with | [_, _], _ => .of_eq rfl⟩,
    f29,
    _,
    fun_mk (st := s_keeps) l29 c29 k29,
    ⟨PySem.W.mg_of X G a29, k29, fun s us hl => match us, hl with | [_, _], _ => .of_eq rfl⟩,
    f30,
    _,
    fun_mk (st := s__law_take) l30 c30 k30,
    ⟨PySem.W.mg_of X G a30, k30, fun s us hl => match us, hl with | [_, _], _ => .of_eq rfl⟩,
    f31,
    _,
    fun_mk (st := s__law_holds) l31 c31 k31,
    ⟨PySem.W.mg_of X G a31, k31, fun s us hl => match us, hl with | [_, _], _ => .of_eq rfl⟩,
    f32,
    _,
    fun_mk (st := s__law_keeping) l32 c32 k32,
    ⟨PySem.W.mg_of X G a32, k32, fun s us hl => match us, hl with | [_, _], _ => .of_eq rfl⟩,
    f33,
    _,
    fun_mk (st := s__law_least) l33 c33 k33,
    ⟨PySem.W.mg_of X G a33, k33, fun s us hl => match us, hl with | [_], _ => .of_eq rfl⟩,
    f34,
    _,
    fun_mk (st := s__law_pair) l34 c34 k34,
    ⟨PySem.W.mg_of X G a34, k34, fun s us hl => match us, hl with | [_, _], _ => .of_eq rfl⟩,
    f35,
    _,
    fun_mk (st := s__law_wild) l35 c35 k35,
    ⟨PySem.W.mg_of X G a35, k35, fun s us hl => match us, hl with | [_, _, _, _], _ => .of_eq rfl⟩,
    f36,
    _,
    fun_mk (st := s__law_tree) l36 c36 k36,
    ⟨PySem.W.mg_of X G a36, k36, fun s us hl => match us, hl with | [_, _, _], _ => .of_eq rfl⟩,
    f37,
    _,
    fun_mk (st := s__law_true) l37 c37 k37,
    ⟨PySem.W.mg_of X G a37, k37, fun s us hl => match us, hl with | [_, _, _, _], _ => .of_eq rfl⟩,
    f38,
    _,
    fun_mk (st := s__law_right) l38 c38 k38,
    ⟨PySem.W.mg_of X G a38, k38, fun s us hl => match us, hl with | [_, _, _], _ => .of_eq rfl⟩,
    f39,
    _,
    fun_mk (st := s_law) l39 c39 k39,
    ⟨PySem.W.mg_of X G a39, k39, fun s us hl => match us, hl with | [_], _ => .of_eq rfl⟩,
    fun s us ws h1 h2 => match us, ws, h1, h2 with | [], [_, _], _, _ => .of_eq rfl,
    fun s us ws h1 h2 => match us, ws, h1, h2 with | [], [_, _], _, _ => .of_eq rfl,
    fun s us ws h1 h2 => match us, ws, h1, h2 with | [], [_, _], _, _ => .of_eq rfl,
    fun s us ws h1 h2 => match us, ws, h1, h2 with | [], [_, _], _, _ => .of_eq rfl,
    PySem.W.mg_none_of X G z0,
    PySem.W.mg_none_of X G z1,
    PySem.W.mg_none_of X G z2,
    PySem.W.mg_none_of X G z3,
    PySem.W.mg_none_of X G z4,
    PySem.W.mg_none_of X G z5,
    PySem.W.mg_none_of X G z6,
    PySem.W.mg_none_of X G z7,
    PySem.W.mg_none_of X G z8,
    PySem.W.mg_none_of X G z9,
    PySem.W.mg_none_of X G z10,
    PySem.W.mg_none_of X G z11,
    PySem.W.mg_none_of X G z12⟩, PySem.W.mg_of X G a39, fun s v => .of_eq rfl⟩
end My

namespace My
open PySem PySem.Spec L2 DL
theorem findSome_map {α β γ : Type} {f : α → Option β} {g : β → γ} : ∀ l : List α, (l.findSome? fun x => (f x).map g) = (l.findSome? f).map g
  | [] => rfl
  | x :: l => by
    rw [List.findSome?_cons, List.findSome?_cons]
    cases h : f x with
    | some y => rfl
    | none => simpa using findSome_map l
theorem e_is_integer {d : D} (h : ND d) : m_is_integer [.fz d, .fz (.int 0), .fz .none] = .ok (.fz (.bool (dayOk d))) [.fz d, .fz (.int 0), .fz .none] := by
  cases d with
  | int n => by_cases q : 0 ≤ n <;> simp [m_is_integer, b_is_integer, fnP, fnM, ownIn_1, ownIn_2, ownIn_3, ownIn_4, backS, sSeq, sSet, sSetO, sRet, sRetO, sRetV, sIf, sDrop, sNext, sPar, M.bind, M.ret, M.opt, M.fail, eBin, eUn, eCall, eCons, eNil, eC, eVar, eTup, oLst, ofO, ofR, ownR, aFz, aRf, aSlot, asB, eAnd, eOr, bAnd, bOr, bNot, eNot, eIf, eIxP, eLenP, eCmpP, eInP, onSlot, slotL, setL, sApp, sSetIx, ePop, ePop0, eIsi, isi_int, isi_bool, mPick, pick, eApp, eCallF, iOpt, iSeq, gAdd, DL.gSub, gMul, gFdiv, gMod, gNeg, gLt, gLe, gGt, gGe, gIs, DL.isNon, intOp, intCmp, gLen, gIx, gAbs, List.length_cons, List.length_nil, List.replicate, List.cons_append, List.nil_append, List.getElem?_cons_zero, List.getElem?_cons_succ, List.set_cons_zero, List.set_cons_succ, Nat.reduceAdd, Nat.reduceSub, Nat.reduceLT, Nat.reduceLeDiff, Nat.lt_irrefl, if_true, if_false, ite_true, ite_false, reduceIte, Bool.not_true, Bool.not_false, Bool.true_or, Bool.false_or, Bool.or_false, Bool.or_true, Bool.and_true, Bool.true_and, Bool.and_false, Bool.false_and, Bool.false_eq_true, Option.map_some, Option.map_none, dayOk, q]
  | dict l => cases l with
    | nil => rfl
    | cons p l => exact absurd rfl (h p l)
  | none => rfl
  | bool _ => rfl
  | str _ => rfl
  | list _ => rfl
  | tuple _ => rfl
theorem e_is_row {d : D} {k : Nat} (h : ND2 d) : m_is_row [.fz d, .fz (.int k)] = .ok (.fz (.bool (rowOk k d))) [.fz d, .fz (.int k)] := by
  cases d with
  | tuple xs =>
    have hx := h.2 xs rfl
    have e : rowOk k (.tuple xs) = (true && (decide ((xs.length : Int) = k) && xs.all dayOk)) := by simp [rowOk]
    rw [e]
    unfold m_is_row b_is_row
    refine fnP_ok rfl rfl (sRet_ok (eAnd_b (b := true) (eIsi_ok (eVar_ok rfl) rfl) fun _ => eAnd_b (eBin_ok (eCall_ok (eCons_ok (eVar_ok rfl) rfl) gLen_tup) (eVar_ok rfl) gEqX_int) fun _ => eCall_ok (eCons_ok (ofO_ok (oComp_all (φ := id) (ds := xs) (fun x => .bool (dayOk x)) ?m rfl ?st rfl)) rfl) blsMap)) rfl
    case m => rw [List.map_id]; exact iSeq_any (eVar_ok rfl) rfl
    case st => exact fun d hd => ⟨_, _, set_nm (by simp [wipeR]), ofR_any (eCF_ok (eCons_ok (aFz_ok (eVar_ok rfl)) (eCons_ok (aFz_ok rfl) (eCons_ok (aFz_ok rfl) rfl))) rfl (e_is_integer (hx d hd)) rfl) rfl, rfl⟩
  | dict l => cases l with
    | nil => rfl
    | cons p l => exact absurd rfl (h.1 p l)
  | none => rfl
  | bool _ => rfl
  | str _ => rfl
  | list _ => rfl
  | int _ => rfl
theorem enum_phi (xs : List D) : enumL xs = (xs.mapIdx fun i x => (i, x)).map fun p : Nat × D => PyData.tuple [.int p.1, p.2] := by
  refine List.ext_getElem? fun i => ?_
  rw [enumL, List.getElem?_map, List.getElem?_mapIdx, List.getElem?_mapIdx]
  cases xs[i]? <;> rfl
theorem mem_idx {xs : List D} {p : Nat × D} (h : p ∈ xs.mapIdx fun i x => (i, x)) : p.2 ∈ xs := by
  obtain ⟨k, hk⟩ := List.getElem?_of_mem h
  rw [List.getElem?_mapIdx] at hk
  cases e : xs[k]? with
  | none => rw [e] at hk; cases hk
  | some d => rw [e] at hk; cases hk; exact List.mem_of_getElem? e
theorem e_is_table {d : D} (h : ND3 d) : m_is_table [.fz d] = .ok (.fz (.bool (tblOk d))) [.fz d] := by
  cases d with
  | tuple xs =>
    have hx := h.2 xs rfl
    cases hxs : xs with
    | nil => rfl
    | cons x0 r0 =>
      rw [← hxs]
      have hne : xs.isEmpty = false := by rw [hxs]; rfl
      have e : tblOk (.tuple xs) = ((xs.mapIdx fun i x => (i, x)).all fun p => rowOk p.1 p.2) := by simp [tblOk, hne]
      rw [e]
      unfold m_is_table b_is_table
      refine fnP_wp rfl rfl ?_
      have hc : gEqX (.tuple xs) (.tuple []) = some (.bool false) := by rw [gEqX_tup0, hne]
      refine wp_seqR (wp_if (bOr_b (bNot_ok (asB_ok (eIsi_ok (eVar_ok rfl) rfl))) fun _ => asB_ok (eBin_ok (eVar_ok rfl) (eTup_ok eNil_ok (by simp)) hc)) (fun h => Bool.noConfusion h) fun _ => wp_next (.inl ⟨rfl, ?_⟩))
      refine wp_ret (eCall_ok (eCons_ok (ofO_ok (oComp_all (ρ0 := [.fz (.tuple xs), .un, .un]) (φ := fun p : Nat × D => PyData.tuple [.int p.1, p.2]) (ds := xs.mapIdx fun i x => (i, x)) (fun p => .bool (rowOk p.1 p.2)) ?m rfl ?st rfl)) rfl) blsMap) ⟨rfl, rfl⟩
      case m => exact iOpt_ok (eCons_ok (eVar_ok rfl) rfl) (congrArg some (enum_phi xs))
      case st => exact fun p hp => ⟨_, _, set_tp2 (by simp [wipeR]) (by simp [wipeR]), ofR_any (eCF_ok (eCons_ok (aFz_ok (eVar_ok rfl)) (eCons_ok (aFz_ok (eVar_ok rfl)) rfl)) rfl (e_is_row (hx p.2 (mem_idx hp))) rfl) rfl, rfl⟩
  | dict l => cases l with
    | nil => rfl
    | cons p l => exact absurd rfl (h.1 p l)
  | none => rfl
  | bool _ => rfl
  | str _ => rfl
  | list _ => rfl
  | int _ => rfl
theorem e_bad_in {T : Tb} (s : Shp T) (hn : T.length ≤ 1000) : m_bad_in [.fz (tabD T)] = .ok (.fz (optD (badT T))) [.fz (tabD T)] := by
  unfold m_bad_in b_bad_in
  refine fnP_wp rfl rfl (wp_seqR ?_)
  refine' wp_find (J := fun _ ρ => ∃ s1 s2 s3 s4, ρ = [.fz (tabD T), s1, s2, s3, s4]) (fun _ ρ => ∃ s1 s2 s3 s4, ρ = [.fz (tabD T), s1, s2, s3, s4])
    (fun i => ((List.range (T.length - (i + 1))).findSome? fun j => (List.range (T.length - (i + 1 + j + 1))).findSome? fun k => if P3 (dy T (i + 1 + j) i) (dy T (i + 1 + j + 1 + k) i) (dy T (i + 1 + j + 1 + k) (i + 1 + j)) then none else some (i, i + 1 + j, i + 1 + j + 1 + k)).map fun t => Slot.fz (tripD t))
    (iOpt_ok (eCons_ok (eCall_ok (eCons_ok (eVar_ok rfl) rfl) gLen_tup) rfl) (rng1_ok (n := T.length) (by simp) (by omega))) ⟨.un, .un, .un, .un, rfl⟩ ?st ?q
  case q =>
    intro f ρ2 hf
    rw [List.length_map, List.length_range, findSome_map, ← badT_def] at hf
    cases hb : badT T with
    | none =>
      rw [hb] at hf
      obtain ⟨rfl, s1, s2, s3, s4, rfl⟩ := hf
      exact .inl ⟨rfl, wp_ret eC_ok ⟨rfl, rfl⟩⟩
    | some t =>
      rw [hb] at hf
      obtain ⟨rfl, s1, s2, s3, s4, rfl⟩ := hf
      exact .inr ⟨_, rfl, rfl, rfl⟩
  case st =>
    rintro i d ρ hd ⟨s1, s2, s3, s4, rfl⟩
    obtain ⟨hi, rfl⟩ := range_at hd
    refine ⟨_, set_nm (by simp), ?_⟩
    refine' wp_find (J := fun _ ρ => ∃ s1 s2 s3 s4, ρ = [.fz (tabD T), s1, s2, s3, s4]) (fun _ ρ => ∃ s2 s3 s4, ρ = [.fz (tabD T), .fz (.int (i : Nat)), s2, s3, s4])
      (fun j => ((List.range (T.length - (i + 1 + j + 1))).findSome? fun k => if P3 (dy T (i + 1 + j) i) (dy T (i + 1 + j + 1 + k) i) (dy T (i + 1 + j + 1 + k) (i + 1 + j)) then none else some (i, i + 1 + j, i + 1 + j + 1 + k)).map fun t => Slot.fz (tripD t))
      (iOpt_ok (eCons_ok (eBin_ok (eVar_ok rfl) rfl rfl) (eCons_ok (eCall_ok (eCons_ok (eVar_ok rfl) rfl) gLen_tup) rfl)) (rng2_ok (a := i + 1) (n := T.length - (i + 1)) (by simp) (by simp; omega) (by omega))) ⟨_, _, _, rfl⟩ ?st ?q
    case q =>
      intro f ρ2 hf
      rw [List.length_map, List.length_range, findSome_map] at hf
      cases hb : ((List.range (T.length - (i + 1))).findSome? fun j => (List.range (T.length - (i + 1 + j + 1))).findSome? fun k => if P3 (dy T (i + 1 + j) i) (dy T (i + 1 + j + 1 + k) i) (dy T (i + 1 + j + 1 + k) (i + 1 + j)) then none else some (i, i + 1 + j, i + 1 + j + 1 + k)) with
      | none =>
        rw [hb] at hf
        obtain ⟨rfl, s2, s3, s4, rfl⟩ := hf
        exact ⟨.inl rfl, _, _, _, _, rfl⟩
      | some t =>
        rw [hb] at hf
        exact hf
    case st =>
      rintro j d ρ hd ⟨s2, s3, s4, rfl⟩
      obtain ⟨hj, rfl⟩ := range_at hd
      refine ⟨_, set_nm (by simp), ?_⟩
      refine' wp_find (J := fun _ ρ => ∃ s1 s2 s3 s4, ρ = [.fz (tabD T), s1, s2, s3, s4]) (fun _ ρ => ∃ s3 s4, ρ = [.fz (tabD T), .fz (.int (i : Nat)), .fz (.int (i + 1 + j : Nat)), s3, s4])
        (fun k => (if P3 (dy T (i + 1 + j) i) (dy T (i + 1 + j + 1 + k) i) (dy T (i + 1 + j + 1 + k) (i + 1 + j)) then none else some (i, i + 1 + j, i + 1 + j + 1 + k)).map fun t => Slot.fz (tripD t))
        (iOpt_ok (eCons_ok (eBin_ok (eVar_ok rfl) rfl rfl) (eCons_ok (eCall_ok (eCons_ok (eVar_ok rfl) rfl) gLen_tup) rfl)) (rng2_ok (a := i + 1 + j + 1) (n := T.length - (i + 1 + j + 1)) (by simp) (by simp; omega) (by omega))) ⟨_, _, rfl⟩ ?st ?q
      case q =>
        intro f ρ2 hf
        rw [List.length_map, List.length_range, findSome_map] at hf
        cases hb : ((List.range (T.length - (i + 1 + j + 1))).findSome? fun k => if P3 (dy T (i + 1 + j) i) (dy T (i + 1 + j + 1 + k) i) (dy T (i + 1 + j + 1 + k) (i + 1 + j)) then none else some (i, i + 1 + j, i + 1 + j + 1 + k)) with
        | none =>
          rw [hb] at hf
          obtain ⟨rfl, s3, s4, rfl⟩ := hf
          exact ⟨.inl rfl, _, _, _, rfl⟩
        | some t =>
          rw [hb] at hf
          exact hf
      case st =>
        rintro k d ρ hd ⟨s3, s4, rfl⟩
        obtain ⟨hk, rfl⟩ := range_at hd
        refine ⟨_, set_nm (by simp), ?_⟩
        have a1 := tabD_at (T := T) (j := i + 1 + j) (by omega)
        have a2 := tabD_at (T := T) (j := i + 1 + j + 1 + k) (by omega)
        have b1 := day_at s (i := i) (j := i + 1 + j) (by omega) (by omega)
        have b2 := day_at s (i := i) (j := i + 1 + j + 1 + k) (by omega) (by omega)
        have b3 := day_at s (i := i + 1 + j) (j := i + 1 + j + 1 + k) (by omega) (by omega)
        obtain ⟨x, y, z, e1, e2⟩ := sort3 (dy T (i + 1 + j) i) (dy T (i + 1 + j + 1 + k) i) (dy T (i + 1 + j + 1 + k) (i + 1 + j))
        have e3 : gSortI [.list [.int (dy T (i + 1 + j) i), .int (dy T (i + 1 + j + 1 + k) i), .int (dy T (i + 1 + j + 1 + k) (i + 1 + j))]] = some (.list [.int x, .int y, .int z]) := by
          have := gSortI_ints (l := [dy T (i + 1 + j) i, dy T (i + 1 + j + 1 + k) i, dy T (i + 1 + j + 1 + k) (i + 1 + j)])
          rw [e1] at this; exact this
        refine wp_set (eCall_ok (eCons_ok (ofO_ok (oLst_ok (eCons_ok (eBin_ok (eBin_ok (eVar_ok rfl) (eVar_ok rfl) a1) (eVar_ok rfl) b1) (eCons_ok (eBin_ok (eBin_ok (eVar_ok rfl) (eVar_ok rfl) a2) (eVar_ok rfl) b2) (eCons_ok (eBin_ok (eBin_ok (eVar_ok rfl) (eVar_ok rfl) a2) (eVar_ok rfl) b3) rfl))) (by simp))) rfl) e3) (by simp) ?_
        refine wp_if (asB_ok (eBin_ok (eBin_ok (eVar_ok rfl) rfl rfl) (eBin_ok (eVar_ok rfl) rfl rfl) gNeX_int)) (fun h => ?_) (fun h => ?_)
        · have h' : ¬ x = y := by simpa using h
          rw [if_neg (fun q => h' (e2.mpr q))]
          exact wp_ret (eTup_ok (eCons_ok (eVar_ok rfl) (eCons_ok (eVar_ok rfl) (eCons_ok (eVar_ok rfl) rfl))) (by simp)) ⟨rfl, _, _, _, _, rfl⟩
        · have h' : x = y := by simpa using h
          rw [if_pos (e2.mp h')]
          exact wp_next ⟨.inl rfl, _, _, rfl⟩
end My

/-! K25p: plain Lean: all histories of n items with days below dm; lesser, greater, parts, what parts say together. -/
namespace My
open PySem PySem.Spec L2 DL
def tabOf (n : Nat) (g : Nat → Nat → Int) : Tb := (List.range n).map fun i => (List.range i).map fun j => g i j
theorem tabOf_len {n : Nat} {g : Nat → Nat → Int} : (tabOf n g).length = n := by simp [tabOf]
theorem tabOf_row {n i : Nat} {g : Nat → Nat → Int} (h : i < n) : (tabOf n g).getD i [] = (List.range i).map fun j => g i j := by simp [tabOf, List.getD, h]
theorem tabOf_shp {n : Nat} {g : Nat → Nat → Int} : Shp (tabOf n g) := fun j hj => by
  rw [tabOf_len] at hj; rw [tabOf_row hj]; simp
theorem dy_tabOf {n i j : Nat} {g : Nat → Nat → Int} (h1 : j < i) (h2 : i < n) : dy (tabOf n g) i j = g i j := by
  unfold dy; rw [tabOf_row h2]; simp [List.getD, h1]
theorem tabOf_congr {n : Nat} {f g : Nat → Nat → Int} (h : ∀ i j, j < i → i < n → f i j = g i j) : tabOf n f = tabOf n g := by
  unfold tabOf
  refine List.map_congr_left fun i hi => List.map_congr_left fun j hj => h i j (List.mem_range.mp hj) (List.mem_range.mp hi)
theorem tab_eq {T : Tb} (s : Shp T) : T = tabOf T.length (dy T) := by
  refine List.ext_getElem (by rw [tabOf_len]) fun i h1 h2 => ?_
  have e1 : T[i] = T.getD i [] := by simp [List.getD, h1]
  have e2 : (tabOf T.length (dy T))[i] = (tabOf T.length (dy T)).getD i [] := by simp [List.getD, h2]
  rw [e1, e2, tabOf_row h1]
  have hl := s i h1
  refine List.ext_getElem (by rw [hl]; simp) fun j h3 h4 => ?_
  have e3 : (T.getD i [])[j] = dy T i j := by
    unfold dy
    generalize T.getD i [] = r at h3 ⊢
    simp [List.getD, h3]
  rw [e3]; simp
theorem tab_ext {A B : Tb} (sa : Shp A) (sb : Shp B) (hl : A.length = B.length) (h : ∀ i j, j < i → i < A.length → dy A i j = dy B i j) : A = B := by
  rw [tab_eq sa, tab_eq sb, ← hl]; exact tabOf_congr h
structure HisN (n dm : Nat) (T : Tb) : Prop where
  len : T.length = n
  shp : Shp T
  bd : ∀ i j, j < i → i < n → 0 ≤ dy T i j ∧ dy T i j < dm
  tri : ∀ i j k, i < j → j < k → k < n → P3 (dy T j i) (dy T k i) (dy T k j)
theorem his_of {n dm : Nat} {g : Nat → Nat → Int} (bd : ∀ i j, j < i → i < n → 0 ≤ g i j ∧ g i j < dm) (tri : ∀ i j k, i < j → j < k → k < n → P3 (g j i) (g k i) (g k j)) : HisN n dm (tabOf n g) := by
  refine ⟨tabOf_len, tabOf_shp, fun i j h1 h2 => ?_, fun i j k h1 h2 h3 => ?_⟩
  · rw [dy_tabOf h1 h2]; exact bd i j h1 h2
  · rw [dy_tabOf h1 (by omega), dy_tabOf (by omega) h3, dy_tabOf h2 h3]; exact tri i j k h1 h2 h3
theorem tri_sym {n : Nat} {T : Tb} (h : ∀ i j k, i < j → j < k → k < n → P3 (dy T j i) (dy T k i) (dy T k j)) {a b c : Nat} (ha : a < n) (hb : b < n) (hc : c < n) (ab : a ≠ b) (ac : a ≠ c) (bc : b ≠ c) : P3 (dyS T a b) (dyS T a c) (dyS T b c) := by
  have k : ∀ i j l, i < j → j < l → l < n → P3 (dyS T i j) (dyS T i l) (dyS T j l) := fun i j l h1 h2 h3 => by
    rw [dyS_lt h1, dyS_lt h2, dyS_lt (Nat.lt_trans h1 h2)]; exact h i j l h1 h2 h3
  have s1 := dyS_comm (T := T) a b
  have s2 := dyS_comm (T := T) a c
  have s3 := dyS_comm (T := T) b c
  rcases Nat.lt_or_gt_of_ne ab with p | p <;> rcases Nat.lt_or_gt_of_ne ac with q | q <;> rcases Nat.lt_or_gt_of_ne bc with r | r
  · exact k a b c p r hc
  · have := k a c b q r hb; unfold P3 at this ⊢; omega
  · omega
  · have := k c a b q p hb; unfold P3 at this ⊢; omega
  · have := k b a c p q hc; unfold P3 at this ⊢; omega
  · omega
  · have := k b c a r q ha; unfold P3 at this ⊢; omega
  · have := k c b a r p ha; unfold P3 at this ⊢; omega
theorem dyS_bd {n dm : Nat} {T : Tb} (h : HisN n dm T) {a b : Nat} (ha : a < n) (hb : b < n) (ab : a ≠ b) : 0 ≤ dyS T a b ∧ dyS T a b < dm := by
  rcases Nat.lt_or_gt_of_ne ab with p | p
  · rw [dyS_lt p]; exact h.bd b a p hb
  · rw [dyS_comm, dyS_lt p]; exact h.bd a b p ha
/-! ### below -/
def leB (A B : Tb) : Bool := (List.range A.length).all fun k => (List.range k).all fun j => decide (dy A k j ≤ dy B k j)
theorem leB_iff {A B : Tb} : leB A B = true ↔ ∀ i j, j < i → i < A.length → dy A i j ≤ dy B i j := by
  unfold leB
  simp only [List.all_eq_true, List.mem_range, decide_eq_true_eq]
  exact ⟨fun h i j h1 h2 => h i h2 j h1, fun h i h2 j h1 => h i j h1 h2⟩
/-! ### lesser, merged -/
def mn (l : List Int) : Int := match l with | [] => 0 | x :: r => r.foldl (fun a b => if b < a then b else a) x
def mx (l : List Int) : Int := match l with | [] => 0 | x :: r => r.foldl (fun a b => if b > a then b else a) x
theorem mn3 {a b c : Int} : mn [a, b, c] = min (min a b) c := by
  simp only [mn, List.foldl]; split <;> split <;> omega
theorem mx3 {a b c : Int} : mx [a, b, c] = max (max a b) c := by
  simp only [mx, List.foldl]; split <;> split <;> omega
theorem P3_min {a b c x y z : Int} (h : P3 a b c) (k : P3 x y z) : P3 (min a x) (min b y) (min c z) := by unfold P3 at *; omega
def mrg (least : Bool) (A B C : Tb) : Tb := tabOf A.length fun i j => if least then mn [dy A i j, dy B i j, dy C i j] else mx [dy A i j, dy B i j, dy C i j]
theorem lesser_his {n dm : Nat} {A B C : Tb} (ha : HisN n dm A) (hb : HisN n dm B) (hc : HisN n dm C) : HisN n dm (mrg true A B C) := by
  unfold mrg
  rw [ha.len]
  refine his_of (fun i j h1 h2 => ?_) fun i j k h1 h2 h3 => ?_
  · have := ha.bd i j h1 h2
    have := hb.bd i j h1 h2
    have := hc.bd i j h1 h2
    simp only [if_true, mn3]; omega
  · simp only [if_true, mn3]
    exact P3_min (P3_min (ha.tri i j k h1 h2 h3) (hb.tri i j k h1 h2 h3)) (hc.tri i j k h1 h2 h3)
theorem lesser_le {A B C : Tb} (hb : B.length = A.length) (hc : C.length = A.length) : leB (mrg true A B C) A = true ∧ leB (mrg true A B C) B = true ∧ leB (mrg true A B C) C = true := by
  refine ⟨leB_iff.mpr fun i j h1 h2 => ?_, leB_iff.mpr fun i j h1 h2 => ?_, leB_iff.mpr fun i j h1 h2 => ?_⟩ <;>
  · unfold mrg at h2 ⊢
    rw [tabOf_len] at h2
    rw [dy_tabOf h1 h2]
    simp only [if_true, mn3]; omega
theorem lesser_most {A B C T : Tb} (hl : T.length = A.length) (h1 : leB T A = true) (h2 : leB T B = true) (h3 : leB T C = true) : leB T (mrg true A B C) = true := by
  refine leB_iff.mpr fun i j q1 q2 => ?_
  have a1 := leB_iff.mp h1 i j q1 q2
  have a2 := leB_iff.mp h2 i j q1 q2
  have a3 := leB_iff.mp h3 i j q1 q2
  unfold mrg
  rw [dy_tabOf q1 (by omega)]
  simp only [if_true, mn3]; omega
/-! ### closed -/
def wd (f : Nat → Nat → Int) (m i j : Nat) : Int := max (f i j) (min (f i m) (f m j))
def fw (f : Nat → Nat → Int) : Nat → Nat → Nat → Int
  | 0 => f
  | k + 1 => wd (fw f k) k
theorem fw_sym {f : Nat → Nat → Int} (h : ∀ i j, f i j = f j i) : ∀ k i j, fw f k i j = fw f k j i
  | 0 => h
  | k + 1 => fun i j => by
    have a := fw_sym h k i j
    have b := fw_sym h k i k
    have c := fw_sym h k k j
    show max _ (min _ _) = max _ (min _ _)
    omega
theorem fw_ge {f : Nat → Nat → Int} : ∀ k i j, f i j ≤ fw f k i j
  | 0, _, _ => Int.le_refl _
  | k + 1, i, j => by
    have := fw_ge (f := f) k i j
    show _ ≤ max _ (min _ _)
    omega
theorem fw_tr {f : Nat → Nat → Int} : ∀ k m i j, m < k → min (fw f k i m) (fw f k m j) ≤ fw f k i j
  | k + 1, m, i, j, h => by
    show min (max _ (min _ _)) (max _ (min _ _)) ≤ max _ (min _ _)
    by_cases q : m = k
    · subst q; omega
    · have h1 := fw_tr (f := f) k m i j (by omega)
      have h2 := fw_tr (f := f) k m i k (by omega)
      have h3 := fw_tr (f := f) k m k j (by omega)
      omega
theorem fw_le {f H : Nat → Nat → Int} {n : Nat} (hH : ∀ i j m, i < n → j < n → m < n → i ≠ j → i ≠ m → m ≠ j → min (H i m) (H m j) ≤ H i j) (h0 : ∀ i j, i < n → j < n → i ≠ j → f i j ≤ H i j) : ∀ k, k ≤ n → ∀ i j, i < n → j < n → i ≠ j → fw f k i j ≤ H i j
  | 0, _ => h0
  | k + 1, hk => fun i j hi hj ij => by
    have ih := fw_le hH h0 k (by omega)
    have a := ih i j hi hj ij
    show max _ (min _ _) ≤ _
    by_cases q1 : k = i
    · subst q1; omega
    · by_cases q2 : k = j
      · subst q2; omega
      · have b := ih i k hi (by omega) (Ne.symm q1)
        have c := ih k j (by omega) hj q2
        have d := hH i j k hi hj (by omega) ij (Ne.symm q1) q2
        omega
def f0 (L : Tb) (top : Int) (i j : Nat) : Int := if i = j then top else dyS L i j
def closeT (L : Tb) (top : Int) : Tb := tabOf L.length (fw (f0 L top) L.length)
theorem f0_sym {L : Tb} {top : Int} (i j : Nat) : f0 L top i j = f0 L top j i := by
  unfold f0
  by_cases h : i = j
  · rw [if_pos h, if_pos h.symm]
  · rw [if_neg h, if_neg (Ne.symm h)]; exact dyS_comm i j
theorem closeT_tri {L : Tb} {top : Int} {i j k : Nat} (h1 : i < j) (h2 : j < k) (h3 : k < L.length) : P3 (fw (f0 L top) L.length j i) (fw (f0 L top) L.length k i) (fw (f0 L top) L.length k j) := by
  have s := fw_sym (f := f0 L top) f0_sym L.length
  have a := fw_tr (f := f0 L top) L.length k j i h3
  have b := fw_tr (f := f0 L top) L.length j k i (by omega)
  have c := fw_tr (f := f0 L top) L.length i k j (by omega)
  have d := s j k
  have e := s i j
  unfold P3; omega
theorem closeT_most {n : Nat} {L H : Tb} {top : Int} (hn : L.length = n) (hl : H.length = n) (ht : ∀ i j k, i < j → j < k → k < n → P3 (dy H j i) (dy H k i) (dy H k j)) (h : leB L H = true) : leB (closeT L top) H = true := by
  subst hn
  refine leB_iff.mpr fun i j h1 h2 => ?_
  unfold closeT at h2 ⊢
  rw [tabOf_len] at h2
  rw [dy_tabOf h1 h2]
  have key := fw_le (f := f0 L top) (H := dyS H) (n := L.length) (fun a b m ha hb hm ab am mb => by
    have := tri_sym ht ha hb hm ab am (Ne.symm mb)
    have e := dyS_comm (T := H) b m
    unfold P3 at this; omega) (fun a b ha hb ab => by
    unfold f0
    rw [if_neg ab]
    rcases Nat.lt_or_gt_of_ne ab with p | p
    · rw [dyS_lt p, dyS_lt p]; exact leB_iff.mp h b a p hb
    · rw [dyS_comm, dyS_comm (T := H), dyS_lt p, dyS_lt p]; exact leB_iff.mp h a b p ha) L.length (Nat.le_refl _) i j h2 (by omega) (by omega)
  rw [dyS_comm, dyS_lt h1] at key; exact key
theorem closeT_ge {L : Tb} {top : Int} : leB L (closeT L top) = true := leB_iff.mpr fun i j h1 h2 => by
  unfold closeT
  rw [dy_tabOf h1 h2]
  have := fw_ge (f := f0 L top) L.length i j
  unfold f0 at this
  rw [if_neg (by omega), dyS_comm, dyS_lt h1] at this
  exact this
theorem leB_at {A B : Tb} (h : leB A B = true) {i j : Nat} (h1 : j < i) (h2 : i < A.length) : dy A i j ≤ dy B i j := leB_iff.mp h i j h1 h2
theorem const_tri {n : Nat} {c : Int} : ∀ i j k, i < j → j < k → k < n → P3 (dy (tabOf n fun _ _ => c) j i) (dy (tabOf n fun _ _ => c) k i) (dy (tabOf n fun _ _ => c) k j) := fun i j k h1 h2 h3 => by
  rw [dy_tabOf h1 (by omega), dy_tabOf (by omega) h3, dy_tabOf h2 h3]; unfold P3; omega
theorem closeT_his {n dm : Nat} {L : Tb} {top : Int} (hn : L.length = n) (bd : ∀ i j, j < i → i < n → 0 ≤ dy L i j ∧ dy L i j < dm) : HisN n dm (closeT L top) := by
  subst hn
  have up := closeT_most (top := top) rfl (H := tabOf L.length fun _ _ => (dm : Int) - 1) tabOf_len const_tri (leB_iff.mpr fun i j h1 h2 => by
    rw [dy_tabOf h1 h2]; have := bd i j h1 h2; omega)
  have cl : (closeT L top).length = L.length := tabOf_len
  refine ⟨cl, tabOf_shp, fun i j h1 h2 => ?_, fun i j k h1 h2 h3 => ?_⟩
  · have a := leB_at (closeT_ge (L := L) (top := top)) h1 h2
    have b := leB_at up h1 (by rw [cl]; exact h2)
    rw [dy_tabOf h1 h2] at b
    have := bd i j h1 h2
    omega
  · unfold closeT
    rw [dy_tabOf h1 (by omega), dy_tabOf (by omega) h3, dy_tabOf h2 h3]; exact closeT_tri h1 h2 h3
theorem greater_bd {n dm : Nat} {A B C : Tb} (ha : HisN n dm A) (hb : HisN n dm B) (hc : HisN n dm C) : ∀ i j, j < i → i < n → 0 ≤ dy (mrg false A B C) i j ∧ dy (mrg false A B C) i j < dm := fun i j h1 h2 => by
  unfold mrg
  rw [dy_tabOf h1 (by rw [ha.len]; exact h2)]
  have := ha.bd i j h1 h2
  have := hb.bd i j h1 h2
  have := hc.bd i j h1 h2
  simp only [Bool.false_eq_true, if_false, mx3]; omega
theorem mrg_ge {A B C : Tb} (hb : B.length = A.length) (hc : C.length = A.length) : leB A (mrg false A B C) = true ∧ leB B (mrg false A B C) = true ∧ leB C (mrg false A B C) = true := by
  refine ⟨leB_iff.mpr fun i j h1 h2 => ?_, leB_iff.mpr fun i j h1 h2 => ?_, leB_iff.mpr fun i j h1 h2 => ?_⟩ <;>
  · unfold mrg
    rw [dy_tabOf h1 (by omega)]
    simp only [Bool.false_eq_true, if_false, mx3]; omega
theorem mrg_le {A B C T : Tb} (h1 : leB A T = true) (h2 : leB B T = true) (h3 : leB C T = true) (hb : B.length = A.length) (hc : C.length = A.length) : leB (mrg false A B C) T = true := by
  refine leB_iff.mpr fun i j q1 q2 => ?_
  unfold mrg at q2 ⊢
  rw [tabOf_len] at q2
  rw [dy_tabOf q1 q2]
  have a1 := leB_at h1 q1 q2
  have a2 := leB_at h2 q1 (by omega)
  have a3 := leB_at h3 q1 (by omega)
  simp only [Bool.false_eq_true, if_false, mx3]; omega
theorem leB_tr {A B C : Tb} (hl : A.length = B.length) (h1 : leB A B = true) (h2 : leB B C = true) : leB A C = true := leB_iff.mpr fun i j q1 q2 => by
  have a := leB_at h1 q1 q2
  have b := leB_at h2 q1 (by omega)
  omega
/-! ### all histories -/
def tri : Nat → Nat
  | 0 => 0
  | k + 1 => tri k + k
def words (dm : Nat) : Nat → List (List Int)
  | 0 => [[]]
  | m + 1 => (words dm m).flatMap fun w => (List.range dm).map fun d : Nat => w ++ [(d : Int)]
theorem words_mem {dm : Nat} : ∀ {m : Nat} {w : List Int}, w ∈ words dm m ↔ w.length = m ∧ ∀ x ∈ w, 0 ≤ x ∧ x < dm
  | 0, w => by
    simp only [words, List.mem_singleton]
    constructor
    · rintro rfl; simp
    · rintro ⟨h, _⟩; exact List.eq_nil_of_length_eq_zero h
  | m + 1, w => by
    simp only [words, List.mem_flatMap, List.mem_map, List.mem_range]
    constructor
    · rintro ⟨u, hu, d, hd, rfl⟩
      obtain ⟨h1, h2⟩ := words_mem.mp hu
      refine ⟨by simp [h1], fun x hx => ?_⟩
      rcases List.mem_append.mp hx with z | z
      · exact h2 x z
      · rw [List.mem_singleton] at z; subst z; omega
    · rintro ⟨h1, h2⟩
      have hne : w ≠ [] := by rintro rfl; simp at h1
      have hl := h2 _ (List.getLast_mem hne)
      refine ⟨w.dropLast, words_mem.mpr ⟨by simp [h1], fun x hx => h2 x ((List.dropLast_sublist w).subset hx)⟩, (w.getLast hne).toNat, by omega, ?_⟩
      rw [show (((w.getLast hne).toNat : Nat) : Int) = w.getLast hne by omega]
      exact List.dropLast_concat_getLast hne
theorem words_len {dm : Nat} : ∀ m, (words dm m).length = dm ^ m
  | 0 => rfl
  | m + 1 => by
    have : ∀ l : List (List Int), (l.flatMap fun w => (List.range dm).map fun d : Nat => w ++ [(d : Int)]).length = l.length * dm := by
      intro l
      induction l with
      | nil => simp
      | cons x l ih => rw [List.flatMap_cons, List.length_append, ih]; simp [Nat.succ_mul]; omega
    show ((words dm m).flatMap _).length = _
    rw [this, words_len m, Nat.pow_succ]
def cutW (n : Nat) (w : List Int) : Tb := (List.range n).map fun k => (w.drop (tri k)).take k
def hb (T : Tb) : Option Slot := (List.range T.length).findSome? fun k => (List.range k).findSome? fun j => (List.range j).findSome? fun i => if P3 (dy T k j) (dy T k i) (dy T j i) then none else some (.fz (.bool false))
theorem hb_none {T : Tb} : hb T = none ↔ ∀ i j k, i < j → j < k → k < T.length → P3 (dy T j i) (dy T k i) (dy T k j) := by
  unfold hb
  simp only [List.findSome?_eq_none_iff, List.mem_range]
  constructor
  · intro h i j k h1 h2 h3
    have := h k h3 j h2 i h1
    split at this
    · rename_i c; unfold P3 at c ⊢; omega
    · cases this
  · intro h k h3 j h2 i h1
    have := h i j k h1 h2 h3
    rw [if_pos]; unfold P3 at this ⊢; omega
theorem hb_some {T : Tb} {s : Slot} (h : hb T = some s) : s = .fz (.bool false) := by
  unfold hb at h
  obtain ⟨k, _, h⟩ := List.exists_of_findSome?_eq_some h
  obtain ⟨j, _, h⟩ := List.exists_of_findSome?_eq_some h
  obtain ⟨i, _, h⟩ := List.exists_of_findSome?_eq_some h
  split at h
  · cases h
  · exact (Option.some.inj h).symm
def every (n dm : Nat) : List Tb := ((words dm (tri n)).map (cutW n)).filter fun T => (hb T).isNone
theorem tri_mono {i j : Nat} (h : i < j) : tri i + i ≤ tri j := by
  induction j with
  | zero => omega
  | succ j ih =>
    show _ ≤ tri j + j
    by_cases q : i = j
    · subst q; omega
    · have := ih (by omega); omega
theorem cutW_row {n k : Nat} {w : List Int} (h : k < n) : (cutW n w).getD k [] = (w.drop (tri k)).take k := by simp [cutW, List.getD, h]
theorem cutW_len {n : Nat} {w : List Int} : (cutW n w).length = n := by simp [cutW]
theorem cutW_shp {n : Nat} {w : List Int} (hw : w.length = tri n) : Shp (cutW n w) := fun k hk => by
  rw [cutW_len] at hk
  rw [cutW_row hk]
  have := tri_mono hk
  simp; omega
theorem flat_tab (g : Nat → Nat → Int) (k : Nat) : ∀ n, k < n → ∃ rest, (tabOf n g).flatten = (tabOf k g).flatten ++ (((List.range k).map fun j => g k j) ++ rest)
  | 0, h => by omega
  | n + 1, h => by
    have e : ∀ m, (tabOf (m + 1) g).flatten = (tabOf m g).flatten ++ ((List.range m).map fun j => g m j) := fun m => by
      unfold tabOf; rw [List.range_succ, List.map_append, List.flatten_append]; simp
    by_cases q : k = n
    · subst q; exact ⟨[], by rw [e, List.append_nil]⟩
    · obtain ⟨r, hr⟩ := flat_tab g k n (by omega)
      exact ⟨r ++ ((List.range n).map fun j => g n j), by rw [e, hr]; simp⟩
theorem flat_len (g : Nat → Nat → Int) : ∀ n, (tabOf n g).flatten.length = tri n
  | 0 => rfl
  | n + 1 => by
    have e : (tabOf (n + 1) g).flatten = (tabOf n g).flatten ++ ((List.range n).map fun j => g n j) := by
      unfold tabOf; rw [List.range_succ, List.map_append, List.flatten_append]; simp
    rw [e, List.length_append, flat_len g n]; simp [tri]
theorem cut_flat {T : Tb} (s : Shp T) : cutW T.length T.flatten = T := by
  rw [tab_eq s]
  generalize dy T = g
  rw [tabOf_len]
  generalize T.length = n
  refine List.ext_getElem (by rw [cutW_len, tabOf_len]) fun k h1 h2 => ?_
  rw [tabOf_len] at h2
  have e1 : (cutW n (tabOf n g).flatten)[k] = (cutW n (tabOf n g).flatten).getD k [] := by simp [List.getD, h1]
  have e2 : (tabOf n g)[k]'(by rw [tabOf_len]; exact h2) = (tabOf n g).getD k [] := by simp [List.getD, tabOf_len, h2]
  rw [e1, e2, tabOf_row h2, cutW_row h2]
  obtain ⟨r, hr⟩ := flat_tab g k n h2
  rw [hr, List.drop_left' (flat_len g k), List.take_left' (by simp)]
theorem every_mem {n dm : Nat} {T : Tb} : T ∈ every n dm ↔ HisN n dm T := by
  unfold every
  rw [List.mem_filter, List.mem_map]
  constructor
  · rintro ⟨⟨w, hw, rfl⟩, hn⟩
    obtain ⟨w1, w2⟩ := words_mem.mp hw
    refine ⟨cutW_len, cutW_shp w1, fun i j h1 h2 => ?_, ?_⟩
    · have hl : j < ((cutW n w).getD i []).length := by rw [cutW_shp w1 i (by rw [cutW_len]; exact h2)]; exact h1
      have hm : dy (cutW n w) i j ∈ (cutW n w).getD i [] := by
        unfold dy
        generalize (cutW n w).getD i [] = r at hl ⊢
        simp only [List.getD, List.getElem?_eq_getElem hl]
        exact List.getElem_mem hl
      rw [cutW_row h2] at hm
      exact w2 _ (List.mem_of_mem_drop (List.mem_of_mem_take hm))
    · have := hb_none.mp (by simpa using hn)
      rwa [cutW_len] at this
  · intro h
    refine ⟨⟨T.flatten, words_mem.mpr ⟨?_, fun x hx => ?_⟩, by rw [← h.len]; exact cut_flat h.shp⟩, by rw [hb_none.mpr (by rw [h.len]; exact h.tri)]; rfl⟩
    · rw [tab_eq h.shp, flat_len, h.len]
    · rw [tab_eq h.shp] at hx
      obtain ⟨r, hr, hx⟩ := List.mem_flatten.mp hx
      unfold tabOf at hr
      obtain ⟨i, hi, rfl⟩ := List.mem_map.mp hr
      obtain ⟨j, hj, rfl⟩ := List.mem_map.mp hx
      rw [List.mem_range] at hi hj
      rw [h.len] at hi
      exact h.bd i j hj hi
theorem every_len {n dm : Nat} : (every n dm).length ≤ dm ^ tri n := by
  unfold every
  refine Nat.le_trans (List.length_filter_le _ _) ?_
  rw [List.length_map, words_len]; exact Nat.le_refl _
theorem every_ne {n dm : Nat} (h : 0 < dm) : every n dm ≠ [] := fun e => by
  have : tabOf n (fun _ _ => 0) ∈ every n dm := every_mem.mpr ⟨tabOf_len, tabOf_shp, fun i j h1 h2 => by rw [dy_tabOf h1 h2]; omega, const_tri⟩
  rw [e] at this; cases this
end My

/-! K08c: draws; tables and histories; closed; equal things (turned from the texts of k25). -/
namespace My
open PySem PySem.Spec L2 DL
def SrcQ (k : Nat) (l : List D) : Prop := ∃ a b c : Int, l = [.int a, .int b, .int c] ∧ 0 ≤ a ∧ 0 ≤ b ∧ b < 10 ^ 34 ∧ 0 ≤ c ∧ c ≤ k
theorem SrcQ.mono {j k : Nat} {l : List D} (h : SrcQ j l) (hk : j ≤ k) : SrcQ k l := by
  obtain ⟨a, b, c, e, h1, h2, h3, h4, h5⟩ := h
  exact ⟨a, b, c, e, h1, h2, h3, h4, by omega⟩
theorem e_cell {ns : List Int} {k : Nat} : ∃ x : Int, m__law_cell_at [.fz (scrD ns), .fz (.int k)] = .ok (.fz (.int x)) [.fz (scrD ns), .fz (.int k)] := by
  by_cases h : k < ns.length
  · exact ⟨ns.getD k 0, fnP_ok rfl rfl (sSeq_ret (sIf_t (asB_ok (eBin_ok (eVar_ok rfl) (eCall_ok (eCons_ok (eVar_ok rfl) rfl) e_len_scr) (congrArg (fun x => some (PyData.bool x)) (decide_eq_true (by omega))))) (sRet_ok (eBin_ok (eVar_ok rfl) (eVar_ok rfl) (gIx_at (n := k) rfl (map_at (by simp [List.getD, h]))))))) rfl⟩
  · exact ⟨0, fnP_ok rfl rfl (sSeq_ok (sIf_f (asB_ok (eBin_ok (eVar_ok rfl) (eCall_ok (eCons_ok (eVar_ok rfl) rfl) e_len_scr) (congrArg (fun x => some (PyData.bool x)) (decide_eq_false (by omega))))) rfl) (sRet_ok rfl)) rfl⟩
theorem e_source {x : Int} {k : Nat} (hk : k ≤ 1000) : ∃ l, SrcQ 0 l ∧ m__law_bag [.fz (.int x), .fz (.int k)] = .ok (.own (.lst l)) [.fz (.int x), .fz (.int k)] := by
  refine' ⟨_, ⟨_, _, _, rfl, ?h1, ?h2, ?h3, Int.le_refl 0, Int.le_refl 0⟩, fnP_ok rfl rfl (sRetO_ok (oLst_ok (eCons_ok (eCall_ok (eCons_ok rfl (eCons_ok (eBin_ok (eVar_ok rfl) (eBin_ok rfl rfl (gPow_ok (n := 18) (by decide) (by decide))) rfl) rfl)) rfl) (eCons_ok (eBin_ok (eBin_ok (eVar_ok rfl) rfl (gMod_ok (by decide))) (eBin_ok rfl (eBin_ok (eVar_ok rfl) rfl rfl) (gMulS1 (by decide))) rfl) (eCons_ok rfl rfl))) (by simp))) rfl⟩
  case h1 => split <;> omega
  case h2 =>
    have := Int.emod_nonneg x (b := 162259276829213363391578010288127) (by decide)
    omega
  case h3 =>
    have := Int.emod_lt_of_pos x (b := 162259276829213363391578010288127) (by decide)
    omega
theorem e_draw {l : List D} {k : Nat} {m : Int} (h : SrcQ k l) (hk : k ≤ 1000000) (hm : 0 < m) (hm2 : m < 10 ^ 41) : ∃ l' r, SrcQ (k + 1) l' ∧ 0 ≤ r ∧ r < m ∧ m__law_take [.own (.lst l), .fz (.int m)] = .ok (.fz (.int r)) [.own (.lst l'), .fz (.int m)] := by
  obtain ⟨a, b, c, rfl, ha, hb, hb2, hc, hc2⟩ := h
  have hm3 : m < 10 ^ 60 := by omega
  by_cases za : 1 < a
  · refine' ⟨_, _, ⟨a / m, b, c, rfl, Int.ediv_nonneg ha (by omega), hb, hb2, hc, by omega⟩, Int.emod_nonneg a (by omega), Int.emod_lt_of_pos a hm, fnP_ok rfl rfl (sSeq_ret (sIf_t (asB_ok (eBin_ok (eIxP_own rfl rfl rfl rfl) rfl ?g1)) (sSeq_ok (sSet_ok (eBin_ok (eIxP_own rfl rfl rfl rfl) (eVar_ok rfl) (gMod_ok hm)) (by simp)) (sSeq_ok (sSetIx_ok (j := 0) (eBin_ok (eIxP_own rfl rfl rfl rfl) (eVar_ok rfl) (gFdivL hm hm3)) rfl rfl rfl rfl) (sRet_ok (eVar_ok rfl)))))) rfl⟩
    case g1 => exact congrArg (fun x => some (PyData.bool x)) (decide_eq_true za)
  · refine' ⟨_, _, ⟨a, b, c + 1, rfl, ha, hb, hb2, by omega, by omega⟩, ?r1, ?r2, fnP_ok rfl rfl (sSeq_ok (sIf_f (asB_ok (eBin_ok (eIxP_own rfl rfl rfl rfl) rfl ?g2)) rfl) (sSeq_ok (sSetIx_ok (j := 2) (eBin_ok (eIxP_own rfl rfl rfl rfl) rfl rfl) rfl rfl rfl rfl) (sSeq_ok (sSet_ok (eBin_ok (eBin_ok (eBin_ok (eIxP_own rfl rfl rfl rfl) (eBin_ok rfl (eIxP_own rfl rfl rfl rfl) (gMulS1 (by decide))) rfl) rfl (gPow_ok (n := 3) (by decide) ?p1)) rfl (gMod_ok (by decide))) (by simp)) (sSeq_ok (sSet_ok (eBin_ok (eBin_ok (eBin_ok (eVar_ok rfl) (eBin_ok rfl (eIxP_own rfl rfl rfl rfl) (gMulS1 (by decide))) rfl) rfl (gPow_ok (n := 5) (by decide) ?p2)) rfl (gMod_ok (by decide))) (by simp)) (sRet_ok (eBin_ok (eBin_ok (eVar_ok rfl) rfl (gFdivL (by decide) (by decide))) (eVar_ok rfl) (gMod_ok hm))))))) rfl⟩
    case g2 => exact congrArg (fun x => some (PyData.bool x)) (decide_eq_false za)
    case r1 => exact Int.emod_nonneg _ (by omega)
    case r2 => exact Int.emod_lt_of_pos _ hm
    case p1 =>
      refine natAbs250 ?_ ?_ <;> omega
    case p2 =>
      have h1 := Int.emod_nonneg ((b + 1300223 * (c + 1)) ^ 3) (b := 162259276829213363391578010288127) (by decide)
      have h2 := Int.emod_lt_of_pos ((b + 1300223 * (c + 1)) ^ 3) (b := 162259276829213363391578010288127) (by decide)
      generalize (b + 1300223 * (c + 1)) ^ 3 % 162259276829213363391578010288127 = z at h1 h2 ⊢
      refine natAbs250 ?_ ?_ <;> omega
theorem take_snoc {α : Type} {l : List α} {i : Nat} {x : α} (h : l[i]? = some x) : l.take (i + 1) = l.take i ++ [x] := by rw [List.take_add_one, h]; rfl
theorem fnP_wpN {P : List Nat} {n N : Nat} {b : M Flw} {ss ss' : Rho} (ho : ownIn P ss = true) (hn : ss.length = n) (hb : Wp b (ss ++ List.replicate (N - n) .un) fun f ρ => f = .next ∧ backS ss ρ = some ss') : fnP P n N b ss = .ok (.fz .none) ss' := by
  obtain ⟨_, ρ, e, rfl, h⟩ := hb
  exact fnP_next ho hn e h
theorem gMax_nat {a b : Nat} : gMax [.int a, .int b] = some (.int (max a b : Nat)) := by
  show some (PyData.int _) = _
  congr 2
  split <;> omega
theorem gMin_nat {a b : Nat} : gMin [.int a, .int b] = some (.int (min a b : Nat)) := by
  show some (PyData.int _) = _
  congr 2
  split <;> omega
theorem gMin_int {a b : Int} : gMin [.int a, .int b] = some (.int (min a b)) := by
  show some (PyData.int _) = _
  congr 2
  split <;> omega
theorem gMax_int {a b : Int} : gMax [.int a, .int b] = some (.int (max a b)) := by
  show some (PyData.int _) = _
  congr 2
  split <;> omega
theorem nd3_tab {T : Tb} : ND3 (tabD T) := by
  refine ⟨nofun, fun xs e x hx => ?_⟩
  cases e
  obtain ⟨r, _, rfl⟩ := List.mem_map.mp hx
  refine ⟨nofun, fun ys e y hy => ?_⟩
  cases e
  obtain ⟨i, _, rfl⟩ := List.mem_map.mp hy
  exact nofun
theorem tbl_of {T : Tb} (s : Shp T) (ne : 0 < T.length) (h0 : ∀ i j, j < i → i < T.length → 0 ≤ dy T i j) : tblOk (tabD T) = true := by
  have ee : (T.map rowD).isEmpty = false := by cases T <;> simp at ne ⊢
  show (!(T.map rowD).isEmpty && ((T.map rowD).mapIdx fun i x => (i, x)).all fun p => rowOk p.1 p.2) = true
  rw [ee, Bool.not_false, Bool.true_and]
  refine all_mapIdx.mpr fun k d e => ?_
  rw [List.getElem?_map] at e
  cases er : T[k]? with
  | none => rw [er] at e; cases e
  | some r =>
    rw [er] at e
    cases e
    have hk : k < T.length := by
      rcases Nat.lt_or_ge k T.length with z | z
      · exact z
      · rw [List.getElem?_eq_none z] at er; cases er
    have hr : T.getD k [] = r := by simp [List.getD, er]
    have hl := s k hk
    rw [hr] at hl
    show (decide (((r.map PyData.int).length : Int) = k) && (r.map PyData.int).all dayOk) = true
    rw [Bool.and_eq_true]
    refine ⟨by simp [hl], List.all_eq_true.mpr fun x hx => ?_⟩
    obtain ⟨i, hi, rfl⟩ := List.mem_map.mp hx
    obtain ⟨j, hj⟩ := List.getElem?_of_mem hi
    have hjl : j < r.length := by
      rcases Nat.lt_or_ge j r.length with z | z
      · exact z
      · rw [List.getElem?_eq_none z] at hj; cases hj
    have : dy T k j = i := by unfold dy; rw [hr]; simp [List.getD, hj]
    have := h0 k j (by omega) hk
    simp [dayOk]; omega
theorem e_is_history {n dm : Nat} {T : Tb} (h : HisN n dm T) (hn : 0 < n) (hn2 : n ≤ 1000) : m_is_history [.fz (tabD T)] = .ok (.fz (.bool true)) [.fz (tabD T)] := by
  have l := h.len
  have e1 := e_is_table (nd3_tab (T := T))
  rw [tbl_of h.shp (by omega) (fun i j h1 h2 => (h.bd i j h1 (by omega)).1)] at e1
  have e2 := e_bad_in h.shp (by omega)
  rw [badT_none (by rw [l]; exact h.tri)] at e2
  exact fnP_ok rfl rfl (sRet_ok (eAnd_b (b := true) (c := true) (ofR_ok (eCF_ok (eCons_ok (aFz_ok (eVar_ok rfl)) rfl) rfl e1 rfl)) fun _ => eBin_ok (ofR_ok (eCF_ok (eCons_ok (aFz_ok (eVar_ok rfl)) rfl) rfl e2 rfl)) rfl rfl)) rfl
theorem e_check_history {n dm : Nat} {T : Tb} (h : HisN n dm T) (hn : 0 < n) (hn2 : n ≤ 1000) : m_check_history [.fz (tabD T)] = .ok (.fz .none) [.fz (tabD T)] :=
  fnP_next rfl rfl (sIf_f (bNot_ok (b := true) (asB_ok (ofR_ok (eCF_ok (eCons_ok (aFz_ok (eVar_ok rfl)) rfl) rfl (e_is_history h hn hn2) rfl)))) rfl) rfl
theorem tabOf_succ {n : Nat} {g : Nat → Nat → Int} : tabOf (n + 1) g = tabOf n g ++ [(List.range n).map fun j => g n j] := by unfold tabOf; rw [List.range_succ, List.map_append]; rfl
theorem e_day_in {T : Tb} (s : Shp T) {i j : Nat} (hi : i < T.length) (hj : j < T.length) (ij : i ≠ j) : m_day_in [.fz (tabD T), .fz (.int i), .fz (.int j)] = .ok (.fz (.int (dyS T i j))) [.fz (tabD T), .fz (.int i), .fz (.int j)] :=
  fnP_ok rfl rfl (sRet_ok (eBin_ok (eBin_ok (eVar_ok rfl) (eCall_ok (eCons_ok (eVar_ok rfl) (eCons_ok (eVar_ok rfl) rfl)) gMax_nat) (tabD_at (by omega))) (eCall_ok (eCons_ok (eVar_ok rfl) (eCons_ok (eVar_ok rfl) rfl)) gMin_nat) (day_at s (by omega) (by omega)))) rfl
theorem e_law_day {T : Tb} (s : Shp T) {i j : Nat} (hi : i < T.length) (hj : j < T.length) (ij : i ≠ j) : m__law_day [.fz (tabD T), .fz (.int i), .fz (.int j)] = .ok (.fz (.int (dyS T i j))) [.fz (tabD T), .fz (.int i), .fz (.int j)] :=
  fnP_ok rfl rfl (sRet_ok (eBin_ok (eBin_ok (eVar_ok rfl) (eCall_ok (eCons_ok (eVar_ok rfl) (eCons_ok (eVar_ok rfl) rfl)) gMax_nat) (tabD_at (by omega))) (eCall_ok (eCons_ok (eVar_ok rfl) (eCons_ok (eVar_ok rfl) rfl)) gMin_nat) (day_at s (by omega) (by omega)))) rfl
def rowL (n : Nat) (f : Nat → Int) : D := .list ((List.range n).map fun j => .int (f j))
def matD (n : Nat) (f : Nat → Nat → Int) : D := .list ((List.range n).map fun i => rowL n (f i))
theorem mat_at {n i : Nat} {f : Nat → Nat → Int} (h : i < n) : gIx (matD n f) (.int i) = some (rowL n (f i)) := gIx_at (n := i) rfl (by simp [h])
theorem rowL_at {n i : Nat} {f : Nat → Int} (h : i < n) : gIx (rowL n f) (.int i) = some (.int (f i)) := gIx_at (n := i) rfl (by simp [h])
theorem zip_rows {n : Nat} {f g : Nat → Int} : zipD [rowL n f, rowL n g] = some ((List.range n).map fun j => PyData.tuple [.int (f j), .int (g j)]) := by
  show some (List.zipWith _ _ _) = _
  congr 1
  rw [List.zipWith_map]
  refine List.ext_getElem (by simp) fun i h1 h2 => ?_
  simp
theorem e_widened {n m : Nat} {f : Nat → Nat → Int} (hm : m < n) : m_widened [.fz (matD n f), .fz (.int m)] = .ok (.own (.lst ((List.range n).map fun i => rowL n (wd f m i)))) [.fz (matD n f), .fz (.int m)] := by
  unfold m_widened b_widened
  refine fnP_wp rfl rfl (wp_set (eBin_ok (eVar_ok rfl) (eVar_ok rfl) (mat_at hm)) (by simp) ?_)
  refine wp_retO (oComp_all (ρ0 := [.fz (matD n f), .fz (.int m), .fz (rowL n (f m)), .un, .un, .un]) (φ := fun i : Nat => rowL n (f i)) (ds := List.range n) (fun i => rowL n (wd f m i)) (iSeq_any (eVar_ok rfl) rfl) rfl (fun i hi => ?_) rfl) ⟨rfl, rfl⟩
  refine ⟨_, _, set_nm (by simp [wipeR]), ofO_ok (oComp_all (ρ0 := [.fz (matD n f), .fz (.int m), .fz (rowL n (f m)), .fz (rowL n (f i)), .un, .un]) (φ := fun j : Nat => PyData.tuple [.int (f i j), .int (f m j)]) (ds := List.range n) (fun j => .int (wd f m i j)) (iOpt_ok (eCons_ok (eVar_ok rfl) (eCons_ok (eVar_ok rfl) rfl)) zip_rows) rfl (fun j hj => ?_) rfl), rfl⟩
  exact ⟨_, _, set_tp2 (by simp [wipeR]) (by simp [wipeR]), eCall_ok (eCons_ok (eVar_ok rfl) (eCons_ok (eCall_ok (eCons_ok (eBin_ok (eVar_ok rfl) (eVar_ok rfl) (rowL_at hm)) (eCons_ok (eVar_ok rfl) rfl)) gMin_int) rfl)) gMax_int, rfl⟩
theorem compL2_all {α : Type} {vs vs1 : List Nat} {g g1 : Tg} {mi1 : M (List D)} {e : M D} {ρ : Rho} {φ : α → D} {fs : α → List D} : ∀ (ds : List α) (acc : List D),
    (∀ d ∈ ds, ∀ acc', ∃ ρ1 es ρ3 ρ4, g.set (φ d) ρ = some ρ1 ∧ mi1 ρ1 = .ok es ρ3 ∧ compL vs1 g1 tYesM e es acc' (wipeR ρ3 vs1) = .ok (acc' ++ fs d) ρ4 ∧ wipeR ρ4 vs = ρ) → acc.length + (ds.flatMap fs).length ≤ 16777216 →
    compL2 vs g tYesM mi1 vs1 g1 tYesM e (ds.map φ) acc ρ = .ok (acc ++ ds.flatMap fs) ρ
  | [], acc, _, _ => by simp [compL2]
  | d :: ds, acc, h, hl => by
    obtain ⟨ρ1, es, ρ3, ρ4, e1, e2, e3, e4⟩ := h d (by simp) acc
    rw [List.flatMap_cons, List.length_append] at hl
    have ih := compL2_all (g1 := g1) (vs1 := vs1) (vs := vs) (g := g) (mi1 := mi1) (e := e) (ρ := ρ) (φ := φ) (fs := fs) ds (acc ++ fs d) (fun x hx => h x (by simp [hx])) (by rw [List.length_append]; omega)
    rw [List.map_cons]
    unfold compL2
    rw [e1]
    have ht : tYesM ρ1 = .ok true ρ1 := rfl
    simp only [ht, e2, e3, e4]
    rw [if_pos (by rw [List.length_append]; omega), ih, List.flatMap_cons, List.append_assoc]
theorem compL_all {α : Type} {vs : List Nat} {g : Tg} {e : M D} {ρ : Rho} {φ : α → D} {f : α → D} (ds : List α) (acc : List D) (h : ∀ d ∈ ds, ∃ ρ1 ρ3, g.set (φ d) ρ = some ρ1 ∧ e ρ1 = .ok (f d) ρ3 ∧ wipeR ρ3 vs = ρ) : compL vs g tYesM e (ds.map φ) acc ρ = .ok (acc ++ ds.map f) ρ := by
  have := compL_map (vs := vs) (g := g) (t := tYesM) (e := e) (ρ := ρ) (φ := φ) (p := fun _ => true) (f := f) ds acc fun d hd => by
    obtain ⟨ρ1, ρ3, e1, e2, e3⟩ := h d hd
    exact ⟨ρ1, ρ1, ρ3, e1, rfl, fun _ => e2, e3⟩
  rw [this, List.filter_eq_self.mpr fun _ _ => rfl]
theorem oComp2_ok {vs vs1 : List Nat} {mi mi1 : M (List D)} {g g1 : Tg} {t t1 : M Bool} {e : M D} {ρ ρ0 ρ2 : Rho} {ds out : List D} (hm : mi ρ = .ok ds ρ0) (hv : (vs.any fun v => isOwn ρ0[v]?) = false) (hc : compL2 vs g t mi1 vs1 g1 t1 e ds [] (wipeR ρ0 vs) = .ok out ρ2) (hr : restR ρ0 ρ2 vs = ρ0) :
    oComp2 vs mi g t mi1 vs1 g1 t1 e ρ = .ok (.lst out) ρ0 := by
  unfold oComp2; rw [bind_ok hm]; simp only [hv, hc, hr]; rfl
theorem enum_mat {n : Nat} {f : Nat → Nat → Int} : enumD [matD n f] = some ((List.range n).map fun i => PyData.tuple [.int (i : Nat), rowL n (f i)]) := by
  show some (enumL _) = _
  congr 1
  refine List.ext_getElem (by simp [enumL]) fun i h1 h2 => ?_
  simp [enumL]
theorem gSl_toL {xs : List D} {k : Int} {m : Nat} (h : k = m) : gSl (.list xs) none (some k) = some (.list (xs.take m)) := by
  have := gSl_to (xs := xs) h
  have e : cutL xs none (some k) = xs.take m := by
    have : some (PyData.tuple (cutL xs none (some k))) = some (PyData.tuple (xs.take m)) := this
    injection this with this
    injection this
  show some (PyData.list _) = _
  rw [e]
theorem take_range {n m : Nat} (h : m ≤ n) : (List.range n).take m = List.range m := by
  refine List.ext_getElem (by simp; omega) fun i h1 h2 => ?_
  simp
def topOf (L : Tb) : Int := 1 + mx (0 :: L.flatten)
theorem e_closed {L : Tb} (s : Shp L) (hn : L.length ≤ 1000) : m_closed [.fz (tabD L)] = .ok (.fz (tabD (closeT L (topOf L)))) [.fz (tabD L)] := by
  have hbig : L.flatten.length ≤ 1000 * 1000 := by
    have : ∀ l : Tb, (∀ r ∈ l, r.length ≤ 1000) → l.flatten.length ≤ l.length * 1000 := by
      intro l
      induction l with
      | nil => intro _; simp
      | cons r l ih =>
        intro h
        have := ih fun r hr => h r (by simp [hr])
        have := h r (by simp)
        rw [List.flatten_cons, List.length_append, List.length_cons, Nat.succ_mul]; omega
    refine Nat.le_trans (this L fun r hr => ?_) (Nat.mul_le_mul_right _ hn)
    obtain ⟨j, hj⟩ := List.getElem?_of_mem hr
    have hjl : j < L.length := by
      rcases Nat.lt_or_ge j L.length with z | z
      · exact z
      · rw [List.getElem?_eq_none z] at hj; cases hj
    have := s j hjl
    rw [show L.getD j [] = r by simp [List.getD, hj]] at this
    omega
  unfold topOf
  generalize hT : 1 + mx (0 :: L.flatten) = top
  unfold m_closed b_closed
  refine fnP_wp rfl rfl (wp_set (eCall_ok (eCons_ok (eVar_ok rfl) rfl) gLen_tup) (by simp) (wp_set (d := .int top) (eBin_ok rfl (eCall_ok (eCons_ok (eBin_ok (ofO_ok (oLst_ok (eCons_ok rfl rfl) (by simp))) (ofO_ok (oComp2_ok (out := L.flatten.map .int) (ρ2 := [.fz (tabD L), .fz (.int ((L.map rowD).length : Nat)), .un, .un, .un, .un, .un, .un, .un, .un]) (iSeq_any (eVar_ok rfl) rfl) rfl ?c rfl)) (gAdd_lst ?l)) rfl) (gMaxL (x := 0) (r := L.flatten) rfl)) ?t) (by simp) ?_))
  case c =>
    have := compL2_all (α := List Int) (vs := [8, 9]) (g := .nm 8) (mi1 := iSeq (eVar 8)) (vs1 := [9]) (g1 := .nm 9) (e := eVar 9) (ρ := [.fz (tabD L), .fz (.int ((L.map rowD).length : Nat)), .un, .un, .un, .un, .un, .un, .un, .un]) (φ := rowD) (fs := fun r => r.map PyData.int) L [] (fun r hr acc' => ⟨_, _, _, _, set_nm (by simp), iSeq_any (eVar_ok rfl) rfl, compL_all (φ := PyData.int) (f := PyData.int) (ρ := [.fz (tabD L), .fz (.int ((L.map rowD).length : Nat)), .un, .un, .un, .un, .un, .un, .fz (rowD r), .un]) r acc' (fun x hx => ⟨_, _, set_nm (by simp), eVar_ok rfl, rfl⟩), rfl⟩) (by
        have : (L.flatMap fun r => r.map PyData.int) = L.flatten.map PyData.int := by rw [List.map_flatten, List.flatMap_def]
        rw [this]; simp only [List.length_nil, List.length_map]; omega)
    have e2 : (L.flatMap fun r => r.map PyData.int) = L.flatten.map PyData.int := by rw [List.map_flatten, List.flatMap_def]
    rw [e2] at this
    exact this
  case l => simp only [List.length_cons, List.length_nil, List.length_map]; omega
  case t => subst hT; rfl
  rw [List.length_map]
  have hlen : ((L.map rowD).length : Nat) = L.length := by simp
  refine wp_set (d := matD L.length (f0 L top)) (ofO_ok (oComp_all (ρ0 := [.fz (tabD L), .fz (.int (L.length : Nat)), .fz (.int top), .un, .un, .un, .un, .un, .un, .un]) (φ := fun i : Nat => PyData.int (i : Nat)) (ds := List.range L.length) (fun i => rowL L.length (f0 L top i)) (iOpt_ok (eCons_ok (eVar_ok rfl) rfl) (rng1_ok (n := L.length) rfl (by omega))) rfl (fun i hi => ?_) rfl)) (by simp) (wp_seq ?_)
  · have hi := List.mem_range.mp hi
    refine ⟨_, _, set_nm (by simp [wipeR]), ofO_ok (oComp_all (ρ0 := [.fz (tabD L), .fz (.int (L.length : Nat)), .fz (.int top), .un, .un, .fz (.int (i : Nat)), .un, .un, .un, .un]) (φ := fun j : Nat => PyData.int (j : Nat)) (ds := List.range L.length) (fun j => .int (f0 L top i j)) (iOpt_ok (eCons_ok (eVar_ok rfl) rfl) (rng1_ok (n := L.length) rfl (by omega))) rfl (fun j hj => ?_) rfl), rfl⟩
    have hj := List.mem_range.mp hj
    by_cases q : i = j
    · subst q
      have ef : f0 L top i i = top := if_pos rfl
      simp only [ef]
      exact ⟨_, _, set_nm (by simp [wipeR]), eIf_t (asB_ok (eBin_ok (eVar_ok rfl) (eVar_ok rfl) (gEqX_int.trans (by simp)))) (eVar_ok rfl), rfl⟩
    · have ef : f0 L top i j = dyS L i j := if_neg q
      simp only [ef]
      exact ⟨_, _, set_nm (by simp [wipeR]), eIf_f (asB_ok (eBin_ok (eVar_ok rfl) (eVar_ok rfl) (gEqX_int.trans (by simp; omega)))) (ofR_ok (eCF_ok (eCons_ok (aFz_ok (eVar_ok rfl)) (eCons_ok (aFz_ok (eVar_ok rfl)) (eCons_ok (aFz_ok (eVar_ok rfl)) rfl))) rfl (e_day_in s hi hj q) rfl)), rfl⟩
  · refine' wp_for (fun k ρ => ∃ s4, ρ = [.fz (tabD L), .fz (.int (L.length : Nat)), .fz (.int top), .fz (matD L.length (fw (f0 L top) k)), s4, .un, .un, .un, .un, .un])
      (iOpt_ok (eCons_ok (eVar_ok rfl) rfl) (rng1_ok (n := L.length) rfl (by omega))) ⟨_, rfl⟩ ?st ?q
    case st =>
      rintro k d ρ hd ⟨s4, rfl⟩
      obtain ⟨hk, rfl⟩ := range_at hd
      exact ⟨_, set_nm (by simp), wp_ok (sSet_ok (ofR_own (eCF_ok (eCons_ok (aFz_ok (eVar_ok rfl)) (eCons_ok (aFz_ok (eVar_ok rfl)) rfl)) rfl (e_widened hk) rfl)) (by simp)) ⟨.inl rfl, _, rfl⟩⟩
    case q =>
      rintro ρ' ⟨s4, rfl⟩
      rw [List.length_map, List.length_range]
      refine ⟨rfl, wp_ret (eCall_ok (eCons_ok (ofO_ok (oComp_all (ρ0 := [.fz (tabD L), .fz (.int (L.length : Nat)), .fz (.int top), .fz (matD L.length (fw (f0 L top) L.length)), s4, .un, .un, .un, .un, .un]) (φ := fun i : Nat => PyData.tuple [.int (i : Nat), rowL L.length (fw (f0 L top) L.length i)]) (ds := List.range L.length) (fun i => rowD ((List.range i).map fun j => fw (f0 L top) L.length i j)) (iOpt_ok (eCons_ok (eVar_ok rfl) rfl) enum_mat) rfl (fun i hi => ?_) rfl)) rfl) gTuple_lst) ⟨?_, rfl⟩⟩
      · have hi := List.mem_range.mp hi
        refine ⟨_, _, set_tp2 (by simp [wipeR]) (by simp [wipeR]), eCall_ok (eCons_ok (eSl_ok (eVar_ok rfl) rfl (pSome_ok (eVar_ok rfl)) (gSl_toL (m := i) rfl)) rfl) ?_, rfl⟩
        show some (PyData.tuple _) = some (PyData.tuple _)
        rw [← List.map_take, take_range (by omega), List.map_map]; rfl
      · show Flw.ret (.fz (.tuple _)) = Flw.ret (.fz (.tuple _))
        unfold closeT tabOf
        rw [List.map_map]; rfl
end My

/-! K08p: plain Lean: bounds, the earliest history that keeps them; how histories grow by an item. -/
namespace My
open PySem PySem.Spec L2 DL
theorem fold_mx : ∀ (l : List Int) (x : Int), x ≤ l.foldl (fun a b => if b > a then b else a) x ∧ (∀ y ∈ l, y ≤ l.foldl (fun a b => if b > a then b else a) x) ∧ ∀ c, x ≤ c → (∀ y ∈ l, y ≤ c) → l.foldl (fun a b => if b > a then b else a) x ≤ c
  | [], x => ⟨Int.le_refl _, fun y hy => absurd hy (by simp), fun c h _ => h⟩
  | z :: l, x => by
    obtain ⟨h1, h2, h3⟩ := fold_mx l (if z > x then z else x)
    rw [List.foldl_cons]
    have q : x ≤ (if z > x then z else x) ∧ z ≤ (if z > x then z else x) := by split <;> omega
    refine ⟨Int.le_trans q.1 h1, fun y hy => ?_, fun c hx hl => h3 c ?_ fun y hy => hl y (by simp [hy])⟩
    · rcases List.mem_cons.mp hy with r | r
      · subst r; exact Int.le_trans q.2 h1
      · exact h2 y r
    · have := hl z (by simp); split <;> omega
theorem fold_mn : ∀ (l : List Int) (x : Int), l.foldl (fun a b => if b < a then b else a) x ≤ x ∧ (∀ y ∈ l, l.foldl (fun a b => if b < a then b else a) x ≤ y) ∧ ∀ c, c ≤ x → (∀ y ∈ l, c ≤ y) → c ≤ l.foldl (fun a b => if b < a then b else a) x
  | [], x => ⟨Int.le_refl _, fun y hy => absurd hy (by simp), fun c h _ => h⟩
  | z :: l, x => by
    obtain ⟨h1, h2, h3⟩ := fold_mn l (if z < x then z else x)
    rw [List.foldl_cons]
    have q : (if z < x then z else x) ≤ x ∧ (if z < x then z else x) ≤ z := by split <;> omega
    refine ⟨Int.le_trans h1 q.1, fun y hy => ?_, fun c hx hl => h3 c ?_ fun y hy => hl y (by simp [hy])⟩
    · rcases List.mem_cons.mp hy with r | r
      · subst r; exact Int.le_trans h1 q.2
      · exact h2 y r
    · have := hl z (by simp); split <;> omega
theorem mx_ge {x : Int} {l : List Int} {y : Int} (h : y ∈ x :: l) : y ≤ mx (x :: l) := by
  obtain ⟨h1, h2, _⟩ := fold_mx l x
  rcases List.mem_cons.mp h with r | r
  · subst r; exact h1
  · exact h2 y r
theorem mx_le {x : Int} {l : List Int} {c : Int} (h : ∀ y ∈ x :: l, y ≤ c) : mx (x :: l) ≤ c := (fold_mx l x).2.2 c (h x (by simp)) fun y hy => h y (by simp [hy])
theorem mn_is {l : List Int} {c : Int} (hm : c ∈ l) (h : ∀ y ∈ l, c ≤ y) : mn l = c := by
  cases l with
  | nil => cases hm
  | cons x l =>
    obtain ⟨h1, h2, h3⟩ := fold_mn l x
    have a := h3 c (h x (by simp)) fun y hy => h y (by simp [hy])
    show l.foldl _ x = c
    rcases List.mem_cons.mp hm with r | r
    · subst r; omega
    · have := h2 c r; omega
/-! ### bounds -/
abbrev Bd := Nat × Nat × Int × Option Int
structure BdOk (n : Nat) (b : Bd) : Prop where
  h1 : b.1 < n
  h2 : b.2.1 < n
  ne : b.1 ≠ b.2.1
  lo : 0 ≤ b.2.2.1
  l4 : b.2.2.1 < 9
  hi : ∀ h, b.2.2.2 = some h → b.2.2.1 ≤ h
def under (h : Option Int) (d : Int) : Bool := match h with
  | none => true
  | some h => decide (d ≤ h)
def hold (T : Tb) (b : Bd) : Bool := decide (b.2.2.1 ≤ dyS T b.1 b.2.1) && under b.2.2.2 (dyS T b.1 b.2.1)
def keep (T : Tb) (bs : List Bd) : Bool := bs.all (hold T)
def onP (i j : Nat) (b : Bd) : Bool := decide (b.1 = i ∧ b.2.1 = j) || decide (b.1 = j ∧ b.2.1 = i)
def lowA (bs : List Bd) (i j : Nat) : Int := mx (0 :: (bs.filter (onP i j)).map fun b => b.2.2.1)
def lowT (n : Nat) (bs : List Bd) : Tb := tabOf n (lowA bs)
def brk (T : Tb) (b : Bd) : Bool := !under b.2.2.2 (dyS T b.1 b.2.1)
theorem onP_day {i j : Nat} {b : Bd} {T : Tb} (h : onP i j b = true) : dyS T b.1 b.2.1 = dyS T i j := by
  unfold onP at h
  rcases Bool.or_eq_true _ _ ▸ h with q | q
  · have := of_decide_eq_true q; rw [this.1, this.2]
  · have := of_decide_eq_true q; rw [this.1, this.2, dyS_comm]
theorem onP_own (b : Bd) : onP (max b.1 b.2.1) (min b.1 b.2.1) b = true := by
  unfold onP
  rcases Nat.le_total b.1 b.2.1 with q | q
  · rw [Nat.max_eq_right q, Nat.min_eq_left q, decide_eq_true (p := b.1 = b.1 ∧ b.2.1 = b.2.1) ⟨rfl, rfl⟩, Bool.or_true]
  · rw [Nat.max_eq_left q, Nat.min_eq_right q, decide_eq_true (p := b.1 = b.1 ∧ b.2.1 = b.2.1) ⟨rfl, rfl⟩, Bool.true_or]
theorem lowA_bd {dm : Nat} {bs : List Bd} (hd : 0 < dm) (ok : ∀ b ∈ bs, b.2.2.1 < dm) (i j : Nat) : 0 ≤ lowA bs i j ∧ lowA bs i j < dm := by
  refine ⟨mx_ge (by simp), ?_⟩
  have : lowA bs i j ≤ (dm : Int) - 1 := mx_le fun y hy => by
    rcases List.mem_cons.mp hy with r | r
    · omega
    · obtain ⟨b, hb, rfl⟩ := List.mem_map.mp r
      have := ok b (List.mem_filter.mp hb).1; omega
  omega
theorem cl_hisD {n dm : Nat} {bs : List Bd} (hd : 0 < dm) (ok : ∀ b ∈ bs, b.2.2.1 < dm) (top : Int) : HisN n dm (closeT (lowT n bs) top) := closeT_his tabOf_len fun i j h1 h2 => by
  unfold lowT; rw [dy_tabOf h1 h2]; exact lowA_bd hd ok i j
theorem cl_his {n : Nat} {bs : List Bd} (ok : ∀ b ∈ bs, BdOk n b) (top : Int) : HisN n 9 (closeT (lowT n bs) top) := cl_hisD (by decide) (fun b hb => (ok b hb).l4) top
theorem keep_low {n dm : Nat} {bs : List Bd} {T : Tb} (hT : HisN n dm T) (h : keep T bs = true) : leB (lowT n bs) T = true := leB_iff.mpr fun i j h1 h2 => by
  unfold lowT at h2 ⊢
  rw [tabOf_len] at h2
  rw [dy_tabOf h1 h2]
  refine mx_le fun y hy => ?_
  rcases List.mem_cons.mp hy with r | r
  · subst r; exact (hT.bd i j h1 h2).1
  · obtain ⟨b, hb, rfl⟩ := List.mem_map.mp r
    obtain ⟨hb, ho⟩ := List.mem_filter.mp hb
    have := List.all_eq_true.mp h b hb
    unfold hold at this
    have := of_decide_eq_true (Bool.and_eq_true _ _ ▸ this).1
    rw [onP_day ho, dyS_comm, dyS_lt h1] at this; exact this
theorem cl_most {n dm : Nat} {bs : List Bd} {T : Tb} {top : Int} (hT : HisN n dm T) (h : keep T bs = true) : leB (closeT (lowT n bs) top) T = true := closeT_most tabOf_len hT.len hT.tri (keep_low hT h)
theorem cl_low {n : Nat} {bs : List Bd} (top : Int) {b : Bd} (ok : BdOk n b) (hb : b ∈ bs) : b.2.2.1 ≤ dyS (closeT (lowT n bs) top) b.1 b.2.1 := by
  have h1 := ok.h1
  have h2 := ok.h2
  have h3 := ok.ne
  have q := leB_at (closeT_ge (L := lowT n bs) (top := top)) (i := max b.1 b.2.1) (j := min b.1 b.2.1) (by omega) (by unfold lowT; rw [tabOf_len]; omega)
  have e : dy (lowT n bs) (max b.1 b.2.1) (min b.1 b.2.1) = lowA bs (max b.1 b.2.1) (min b.1 b.2.1) := dy_tabOf (by omega) (by omega)
  have g : b.2.2.1 ≤ lowA bs (max b.1 b.2.1) (min b.1 b.2.1) := mx_ge (by
    refine List.mem_cons_of_mem _ (List.mem_map.mpr ⟨b, List.mem_filter.mpr ⟨hb, onP_own b⟩, rfl⟩))
  unfold dyS; omega
theorem cl_keep {n : Nat} {bs : List Bd} (ok : ∀ b ∈ bs, BdOk n b) (top : Int) : keep (closeT (lowT n bs) top) bs = bs.all fun b => !brk (closeT (lowT n bs) top) b := by
  rw [Bool.eq_iff_iff]
  unfold keep
  simp only [List.all_eq_true, hold, brk, Bool.not_not, Bool.and_eq_true, decide_eq_true_eq]
  exact ⟨fun h b hb => (h b hb).2, fun h b hb => ⟨cl_low top (ok b hb) hb, h b hb⟩⟩
theorem dyS_mono {A B : Tb} {n : Nat} (hA : A.length = n) (h : leB A B = true) {i j : Nat} (hi : i < n) (hj : j < n) (ij : i ≠ j) : dyS A i j ≤ dyS B i j := by
  unfold dyS; exact leB_at h (by omega) (by omega)
theorem under_mono {h : Option Int} {a b : Int} (le : a ≤ b) (k : under h b = true) : under h a = true := by
  cases h with
  | none => rfl
  | some h => exact decide_eq_true (by have := of_decide_eq_true k; omega)
theorem kept_cl {n dm : Nat} {bs : List Bd} {T : Tb} (ok : ∀ b ∈ bs, BdOk n b) (top : Int) (hT : HisN n dm T) (h : keep T bs = true) : keep (closeT (lowT n bs) top) bs = true := by
  have le := cl_most (top := top) hT h
  rw [cl_keep ok, List.all_eq_true]
  intro b hb
  have := List.all_eq_true.mp h b hb
  unfold hold at this
  have o := ok b hb
  unfold brk
  rw [Bool.not_not]
  exact under_mono (dyS_mono (n := n) (cl_his ok top).len le o.h1 o.h2 o.ne) (Bool.and_eq_true _ _ ▸ this).2
/-! ### histories grow -/
theorem his_grow {n : Nat} {T : Tb} (h : HisN n 4 T) {near : Nat} {late : Int} (hn : near < n) (h0 : 0 ≤ late) (h1 : late < 4) : HisN (n + 1) 4 (T ++ [newRow T near late n]) := by
  have hl := h.len
  refine ⟨by simp [hl], fun j hj => ?_, fun i j q1 q2 => ?_, fun i j k hij hjk hk => ?_⟩
  · rw [List.length_append, List.length_singleton] at hj
    by_cases q : j < T.length
    · have := h.shp j q
      simp only [List.getD] at this ⊢
      rw [List.getElem?_append_left q]; exact this
    · have : j = T.length := by omega
      subst this
      simp [List.getD, newRow, hl]
  · by_cases q : i < n
    · rw [dy_old (by omega)]; exact h.bd i j q1 q
    · have : i = T.length := by omega
      subst this
      rw [dy_new, newRow_at (by omega)]
      by_cases p : j = near
      · rw [if_pos p]; exact ⟨h0, h1⟩
      · rw [if_neg p]
        have := dyS_bd h hn (show j < n by omega) (fun z => p z.symm)
        omega
  · by_cases q : k < n
    · rw [dy_old (by omega), dy_old (by omega), dy_old (by omega)]; exact h.tri i j k hij hjk q
    · have : k = T.length := by omega
      subst this
      rw [dy_old hjk, dy_new, dy_new, newRow_at (by omega), newRow_at (by omega)]
      have e := dyS_lt (T := T) hij
      by_cases p1 : i = near
      · subst p1
        rw [if_pos rfl, if_neg (by omega), e]
        unfold P3; omega
      · by_cases p2 : j = near
        · subst p2
          rw [if_neg p1, if_pos rfl, dyS_comm, e]
          unfold P3; omega
        · rw [if_neg p1, if_neg p2]
          have := tri_sym h.tri hn (show i < n by omega) (show j < n by omega) (fun z => p1 z.symm) (fun z => p2 z.symm) (show i ≠ j by omega)
          rw [e] at this
          unfold P3 at this ⊢; omega
theorem top_of (f : Nat → Int) : ∀ n : Nat, 0 < n → ∃ m, m < n ∧ ∀ j, j < n → f j ≤ f m
  | 1, _ => ⟨0, by omega, fun j hj => by have : j = 0 := by omega
                                         subst this; exact Int.le_refl _⟩
  | n + 2, _ => by
    obtain ⟨m, hm, h⟩ := top_of f (n + 1) (by omega)
    by_cases q : f m ≤ f (n + 1)
    · refine ⟨n + 1, by omega, fun j hj => ?_⟩
      by_cases z : j = n + 1
      · subst z; exact Int.le_refl _
      · exact Int.le_trans (h j (by omega)) q
    · refine ⟨m, by omega, fun j hj => ?_⟩
      by_cases z : j = n + 1
      · subst z; omega
      · exact h j (by omega)
theorem dy_take {T : Tb} {n i j : Nat} (h : i < n) : dy (T.take n) i j = dy T i j := by
  unfold dy; simp only [List.getD]; rw [List.getElem?_take, if_pos h]
theorem his_take {n : Nat} {T : Tb} (h : HisN (n + 1) 4 T) : HisN n 4 (T.take n) := by
  have hl := h.len
  have tl : (T.take n).length = n := by rw [List.length_take]; omega
  refine ⟨tl, fun j hj => ?_, fun i j q1 q2 => by rw [dy_take q2]; exact h.bd i j q1 (by omega), fun i j k q1 q2 q3 => by rw [dy_take (by omega), dy_take q3, dy_take q3]; exact h.tri i j k q1 q2 (by omega)⟩
  rw [tl] at hj
  have := h.shp j (by omega)
  simp only [List.getD] at this ⊢
  rw [List.getElem?_take, if_pos hj]; exact this
theorem his_cut {n : Nat} {T : Tb} (h : HisN (n + 1) 4 T) (hn : 0 < n) : ∃ T0 near, ∃ d : Nat, HisN n 4 T0 ∧ near < n ∧ d < 4 ∧ T = T0 ++ [newRow T0 near (d : Int) n] := by
  have h0 := his_take h
  obtain ⟨m, hm, ht⟩ := top_of (fun j => dy T n j) n hn
  have hb := h.bd n m hm (by omega)
  refine ⟨T.take n, m, (dy T n m).toNat, h0, hm, by omega, ?_⟩
  rw [show (((dy T n m).toNat : Nat) : Int) = dy T n m by omega]
  have g := his_grow h0 hm hb.1 hb.2
  refine tab_ext h.shp g.shp (by rw [h.len, g.len]) fun i j q1 q2 => ?_
  rw [h.len] at q2
  by_cases q : i < n
  · rw [dy_old (by rw [h0.len]; exact q), dy_take q]
  · have : i = n := by omega
    subst this
    have e := dy_new (T := T.take i) (r := newRow (T.take i) m (dy T i m) i) (i := j)
    rw [h0.len] at e
    rw [e, newRow_at q1]
    by_cases z : j = m
    · rw [if_pos z, z]
    · rw [if_neg z]
      have tr := tri_sym h.tri (a := m) (b := j) (c := i) (by omega) (by omega) (by omega) (fun y => z y.symm) (by omega) (by omega)
      rw [dyS_lt (T := T) (a := m) (b := i) hm, dyS_lt (T := T) (a := j) (b := i) q1] at tr
      have e2 : dyS (T.take i) m j = dyS T m j := by unfold dyS; exact dy_take (by omega)
      have := ht j q1
      rw [e2]
      unfold P3 at tr; omega
theorem his1 : HisN 1 4 [[]] := ⟨rfl, fun j hj => by simp at hj; subst hj; rfl, fun i j h1 h2 => by omega, fun i j k h1 h2 h3 => by omega⟩
theorem his1_only {T : Tb} (h : HisN 1 4 T) : T = [[]] := tab_ext h.shp his1.shp h.len fun i j h1 h2 => by rw [h.len] at h2; omega
end My

/-! GOOD: texts of small data, also with short texts and {} inside. -/
namespace My
open PySem PySem.Spec L2 DL
theorem hi_free {x : Str} : PyData.strOk x = true ↔ ∀ k, 0x110000 ≤ k → k ∉ x.cps.toList := by
  unfold PyData.strOk
  rw [← Array.all_toList, List.all_eq_true]
  constructor
  · intro h k hk hm
    have := h k hm
    simp at this
    omega
  · intro h c hc
    refine decide_eq_true ?_
    rcases Nat.lt_or_ge c 0x110000 with z | z
    · exact z
    · exact absurd hc (h c z)
mutual
/-- the text of it is a text -/
def txtD : D → Bool
  | .none | .bool _ | .int _ | .dict [] => true
  | .list xs | .tuple xs => txtAll xs
  | .str x => PyData.strOk (PyData.shown (.str x))
  | .dict _ => false
def txtAll : List D → Bool
  | [] => true
  | x :: xs => txtD x && txtAll xs
end
theorem strOk_hi {x : Str} {k : Nat} (h : PyData.strOk x = true) (hk : 0x110000 ≤ k) : k ∉ x.cps.toList := hi_free.mp h k hk
mutual
theorem txt_hi {k : Nat} (hk : 0x110000 ≤ k) : ∀ d : D, txtD d = true → k ∉ d.shown.cps.toList
  | .none, _ => strOk_hi (by decide +kernel) hk
  | .bool b, _ => by cases b <;> exact strOk_hi (by decide +kernel) hk
  | .int i, _ => PyProof.Rows.shown_int_free' (by omega) i
  | .str x, h => strOk_hi (by simpa [txtD] using h) hk
  | .dict [], _ => strOk_hi (by decide +kernel) hk
  | .dict (_ :: _), h => by simp [txtD] at h
  | .list xs, h => by
    have ih := txtAll_hi hk xs (by simpa [txtD] using h)
    rw [PyData.shown_list, PyProof.Rows.mem_cps_append, PyProof.Rows.mem_cps_append, PyProof.Rows.signs_lbrack, PyProof.Rows.signs_rbrack]
    rintro ((hm | hm) | hm)
    · simp at hm; omega
    · exact hi_list hk ih hm
    · simp at hm; omega
  | .tuple xs, h => by
    have ih := txtAll_hi hk xs (by simpa [txtD] using h)
    rw [PyData.shown_tuple, PyProof.Rows.mem_cps_append, PyProof.Rows.mem_cps_append, PyProof.Rows.signs_lparen]
    rintro ((hm | hm) | hm)
    · simp at hm; omega
    · exact hi_list hk ih hm
    · split at hm
      · rw [show ((",)" : String) : Str).cps.toList = [44, 41] by decide] at hm; simp at hm; omega
      · rw [show ((")" : String) : Str).cps.toList = [41] by decide] at hm; simp at hm; omega
theorem txtAll_hi {k : Nat} (hk : 0x110000 ≤ k) : ∀ xs : List D, txtAll xs = true → ∀ t ∈ PyData.shownAll xs, k ∉ t.cps.toList
  | [], _, t, ht => by rw [PyData.shownAll_nil] at ht; exact absurd ht (by simp)
  | x :: r, h, t, ht => by
    simp only [txtAll, Bool.and_eq_true] at h
    rw [PyData.shownAll_cons, List.mem_cons] at ht
    rcases ht with e | ht
    · rw [e]; exact txt_hi hk x h.1
    · exact txtAll_hi hk r h.2 t ht
end
theorem strOk_txt {d : D} (h : txtD d = true) : PyData.strOk d.shown = true := hi_free.mpr fun _ hk => txt_hi hk d h
theorem gNeX_str {s : Str} (h : PyData.strOk s = true) : gNeX (.str s) (.str s) = some (.bool false) := by
  unfold gNeX gNe
  simp [SeqAt.shaped, PyData.canLay0, h, PyData.depth, PyData.eqv]
theorem gEqX_str {s : Str} (h : PyData.strOk s = true) : gEqX (.str s) (.str s) = some (.bool true) := by
  unfold gEqX gEq
  simp [SeqAt.shaped, PyData.canLay0, h, PyData.depth, PyData.eqv]
/-- a datum of which the text can be taken -/
structure Sml (W : Nat) (P : Nat) (d : D) : Prop where
  sh : d.showable = true
  lf : d.leavesShort 50 = true
  tx : txtD d = true
  wt : d.weight ≤ W
  dp : d.depth ≤ P
def Mix (d : D) : Prop := d.canLay0 = true ∨ noList d = true
theorem repr_sml {d : D} (h : Sml 300000 60 d) (m : Mix d) : ∃ s, gReprX [d] = some (.str s) ∧ PyData.strOk s = true := by
  refine ⟨d.shown, ?_, strOk_txt h.tx⟩
  have hw := PyData.shown_le 50 (by decide) d h.lf
  have hl : d.shown.length ≤ 16777216 := by have := h.wt; omega
  have hd : d.depth ≤ 64 := by have := h.dp; omega
  show (match reprD d with
    | some z => some z
    | none => if d.showable && decide (d.depth ≤ 64) && decide (d.shown.length ≤ 16777216) && noList d then some (.str d.shown) else none) = _
  unfold reprD
  rw [h.sh, decide_eq_true hd, decide_eq_true hl]
  cases c : d.canLay0 with
  | true => rfl
  | false =>
    rcases m with m | m
    · rw [c] at m; cases m
    · rw [m]; rfl
theorem Sml.mono {W W' P P' : Nat} {d : D} (h : Sml W P d) (hw : W ≤ W') (hp : P ≤ P') : Sml W' P' d := ⟨h.sh, h.lf, h.tx, Nat.le_trans h.wt hw, Nat.le_trans h.dp hp⟩
theorem sml_all {W P n : Nat} : ∀ {xs : List D}, (∀ x ∈ xs, Sml W P x) → xs.length ≤ n → PyData.showableAll xs = true ∧ PyData.leavesShortAll 50 xs = true ∧ txtAll xs = true ∧ PyData.weightAll xs ≤ (W + 1) * n ∧ PyData.depthAll xs ≤ P
  | [], _, _ => ⟨rfl, rfl, rfl, Nat.zero_le _, Nat.zero_le _⟩
  | x :: xs, h, hn => by
    cases n with
    | zero => simp at hn
    | succ n =>
      have hx := h x (by simp)
      obtain ⟨a, b, c, d, e⟩ := sml_all (xs := xs) (n := n) (fun y hy => h y (by simp [hy])) (by simpa using hn)
      refine ⟨by simp [PyData.showableAll, hx.sh, a], by simp [PyData.leavesShortAll, hx.lf, b], by simp [txtAll, hx.tx, c], ?_, ?_⟩
      · simp only [PyData.weightAll]
        have := hx.wt
        rw [Nat.mul_succ]; omega
      · simp only [PyData.depthAll]
        have := hx.dp
        omega
theorem sml_tup {W P n : Nat} {xs : List D} (h : ∀ x ∈ xs, Sml W P x) (hn : xs.length ≤ n) : Sml ((W + 1) * n) (P + 1) (.tuple xs) := by
  obtain ⟨a, b, c, d, e⟩ := sml_all h hn
  exact ⟨by simpa [PyData.showable] using a, by simpa [PyData.leavesShort] using b, by simpa [txtD] using c, by simpa [PyData.weight] using d, by simp only [PyData.depth]; omega⟩
theorem sml_lst {W P n : Nat} {xs : List D} (h : ∀ x ∈ xs, Sml W P x) (hn : xs.length ≤ n) : Sml ((W + 1) * n) (P + 1) (.list xs) := by
  obtain ⟨a, b, c, d, e⟩ := sml_all h hn
  exact ⟨by simpa [PyData.showable] using a, by simpa [PyData.leavesShort] using b, by simpa [txtD] using c, by simpa [PyData.weight] using d, by simp only [PyData.depth]; omega⟩
theorem canLay_all {xs : List D} (h : ∀ x ∈ xs, x.canLay0 = true) : PyData.canLayAll0 xs = true := by
  induction xs with
  | nil => rfl
  | cons x xs ih => simp only [PyData.canLayAll0, h x (by simp), ih fun y hy => h y (by simp [hy])]; rfl
theorem noList_all {xs : List D} (h : ∀ x ∈ xs, noList x = true) : noListAll xs = true := by
  induction xs with
  | nil => rfl
  | cons x xs ih => simp only [noListAll, h x (by simp), ih fun y hy => h y (by simp [hy])]; rfl
theorem canLay_tup {xs : List D} (h : ∀ x ∈ xs, x.canLay0 = true) : (PyData.tuple xs).canLay0 = true := by simpa [PyData.canLay0] using canLay_all h
theorem canLay_lst {xs : List D} (h : ∀ x ∈ xs, x.canLay0 = true) : (PyData.list xs).canLay0 = true := by simpa [PyData.canLay0] using canLay_all h
theorem noList_tup {xs : List D} (h : ∀ x ∈ xs, noList x = true) : noList (PyData.tuple xs) = true := by simpa [noList] using noList_all h
theorem sml_int {i : Int} (h0 : 0 ≤ i) (h : i < 10 ^ 45) : Sml 160 0 (.int i) := by
  have hl : i.natAbs.log2 ≤ 150 := by
    by_cases z : i.natAbs = 0
    · rw [z]; decide
    · exact Nat.le_of_lt ((Nat.log2_lt z).mpr (Nat.lt_of_lt_of_le (show i.natAbs < 10 ^ 45 by omega) (by decide)))
  refine ⟨by simp [PyData.showable]; omega, ?_, rfl, ?_, by simp [PyData.depth]⟩
  · simp only [PyData.leavesShort, decide_eq_true_eq]
    exact Nat.le_trans (shown_int (k := 45) h0 (by decide) h) (by decide)
  · simp only [PyData.weight]
    split <;> omega
end My

/-! K08d: tables compared; _law_same of equal things (turned from the texts of k25). -/
namespace My
open PySem PySem.Spec L2 DL
theorem depth_all {P : Nat} : ∀ {xs : List D}, (∀ x ∈ xs, x.depth ≤ P) → PyData.depthAll xs ≤ P
  | [], _ => Nat.zero_le _
  | x :: xs, h => by
    have a := h x (by simp)
    have b := depth_all (P := P) (xs := xs) fun y hy => h y (by simp [hy])
    simp only [PyData.depthAll]; omega
theorem can_row {r : List Int} : (rowD r).canLay0 = true ∧ (rowD r).depth ≤ 1 := by
  refine ⟨canLay_tup fun x hx => ?_, ?_⟩
  · obtain ⟨i, _, rfl⟩ := List.mem_map.mp hx; rfl
  · have := depth_all (P := 0) (xs := r.map PyData.int) fun x hx => by
      obtain ⟨i, _, rfl⟩ := List.mem_map.mp hx; simp [PyData.depth]
    simp only [rowD, PyData.depth]; omega
theorem can_tab {T : Tb} : (tabD T).canLay0 = true ∧ (tabD T).depth ≤ 2 := by
  refine ⟨canLay_tup fun x hx => ?_, ?_⟩
  · obtain ⟨i, _, rfl⟩ := List.mem_map.mp hx; exact can_row.1
  · have := depth_all (P := 1) (xs := T.map rowD) fun x hx => by
      obtain ⟨i, _, rfl⟩ := List.mem_map.mp hx; exact can_row.2
    simp only [tabD, PyData.depth]; omega
theorem can_tabs {E : List Tb} : (PyData.list (E.map tabD)).canLay0 = true ∧ (PyData.list (E.map tabD)).depth ≤ 3 := by
  refine ⟨canLay_lst fun x hx => ?_, ?_⟩
  · obtain ⟨i, _, rfl⟩ := List.mem_map.mp hx; exact can_tab.1
  · have := depth_all (P := 2) (xs := E.map tabD) fun x hx => by
      obtain ⟨i, _, rfl⟩ := List.mem_map.mp hx; exact can_tab.2
    simp only [PyData.depth]; omega
theorem shaped_of {d : D} {k : Nat} (h : d.canLay0 = true ∧ d.depth ≤ k) (hk : k ≤ 64) : SeqAt.shaped d = true := by
  unfold SeqAt.shaped; rw [h.1, decide_eq_true (Nat.le_trans h.2 hk)]; rfl
theorem eqv_row : ∀ r s : List Int, PyData.eqvAll (r.map PyData.int) (s.map PyData.int) = decide (r = s)
  | [], [] => by simp [PyData.eqvAll]
  | [], _ :: _ => by simp [PyData.eqvAll]
  | _ :: _, [] => by simp [PyData.eqvAll]
  | x :: r, y :: s => by
    have := eqv_row r s
    simp only [List.map_cons, PyData.eqvAll, PyData.eqv, this, List.cons.injEq]
    by_cases h : x = y <;> simp [h]
theorem eqv_tab : ∀ A B : Tb, PyData.eqvAll (A.map rowD) (B.map rowD) = decide (A = B)
  | [], [] => by simp [PyData.eqvAll]
  | [], _ :: _ => by simp [PyData.eqvAll]
  | _ :: _, [] => by simp [PyData.eqvAll]
  | x :: r, y :: s => by
    have := eqv_tab r s
    have h2 : PyData.eqv (rowD x) (rowD y) = decide (x = y) := by unfold rowD; rw [PyData.eqv]; exact eqv_row x y
    simp only [List.map_cons, PyData.eqvAll, this, h2, List.cons.injEq]
    by_cases h : x = y <;> simp [h]
theorem eqv_tabs (A B : Tb) : PyData.eqv (tabD A) (tabD B) = decide (A = B) := by unfold tabD; rw [PyData.eqv]; exact eqv_tab A B
theorem gNeX_tab {A B : Tb} : gNeX (tabD A) (tabD B) = some (.bool (!decide (A = B))) := by
  have h : gNe (tabD A) (tabD B) = some (.bool (!decide (A = B))) := by
    unfold gNe
    rw [shaped_of can_tab (by decide), shaped_of can_tab (by decide), eqv_tabs]; rfl
  unfold gNeX; rw [h]
theorem gNotIn_tab {T : Tb} {E : List Tb} : gNotIn (tabD T) (.list (E.map tabD)) = some (.bool (!decide (T ∈ E))) := by
  have h : memD (tabD T) (.list (E.map tabD)) = some (decide (T ∈ E)) := by
    have e : inD (tabD T) (E.map tabD) = decide (T ∈ E) := by
      unfold inD
      rw [List.any_map]
      by_cases q : T ∈ E
      · rw [decide_eq_true q, List.any_eq_true]
        exact ⟨T, q, by rw [Function.comp_apply, eqv_tabs]; simp⟩
      · rw [decide_eq_false q, List.any_eq_false]
        intro U hU
        rw [Function.comp_apply, eqv_tabs]
        simp only [decide_eq_true_eq]
        exact fun z => q (z ▸ hU)
    show (if (SeqAt.shaped (tabD T) && SeqAt.shaped (.list (E.map tabD))) = true then some (inD (tabD T) (E.map tabD)) else none) = _
    rw [shaped_of can_tab (by decide), shaped_of can_tabs (by decide), e]; rfl
  unfold gNotIn; rw [h]; rfl
theorem gEqX_lst0 {xs : List D} : gEqX (.list xs) (.list []) = some (.bool xs.isEmpty) := by
  cases xs with
  | nil => rfl
  | cons x r =>
    unfold gEqX gEq
    split
    · rename_i z h
      split at h
      · cases h; simp [PyData.eqv, PyData.eqvAll]
      · cases h
    · simp [lenE]
theorem eIsiT_ok {Ts : List String} {m : M D} {d z : D} {ρ ρ1 : Rho} (h : m ρ = .ok d ρ1) (hz : isiTD Ts d = some z) : eIsiT Ts m ρ = .ok z ρ1 := by unfold eIsiT; rw [bind_ok h, hz]; rfl
theorem s_flat {n : Nat} {d : D} {p q : D} (h1 : isiTD ["list", "tuple"] d = some (.bool false)) (h2 : gIs d .none = some (.bool false)) (h3 : isiD "bool" d = some (.bool false)) (h4 : gEqX d d = some (.bool true)) : mf__law_same (n + 1) [.fz d, .fz d] = .ok (.fz (.bool true)) [.fz d, .fz d] := by
  show fnP [] 2 3 (b__law_same (mf__law_same n)) _ = _
  exact fnP_ok rfl rfl (sSeq_ok (sIf_f (asB_ok (b := false) (eIsiT_ok (eVar_ok rfl) h1)) rfl) (sSeq_ok (sIf_f (bOr_f (asB_ok (b := false) (eBin_ok (eVar_ok rfl) rfl h2)) (asB_ok (b := false) (eBin_ok (eVar_ok rfl) rfl h2))) rfl) (sSeq_ok (sIf_f (bOr_f (asB_ok (b := false) (eIsi_ok (eVar_ok rfl) h3)) (asB_ok (b := false) (eIsi_ok (eVar_ok rfl) h3))) rfl) (sRet_ok (eBin_ok (eVar_ok rfl) (eVar_ok rfl) h4))))) rfl
theorem s_int (n : Nat) (i : Int) : mf__law_same (n + 1) [.fz (.int i), .fz (.int i)] = .ok (.fz (.bool true)) [.fz (.int i), .fz (.int i)] :=
  s_flat (p := .none) (q := .none) rfl rfl rfl (gEqX_int.trans (by simp))
theorem s_none (n : Nat) : mf__law_same (n + 1) [.fz .none, .fz .none] = .ok (.fz (.bool true)) [.fz .none, .fz .none] := by
  show fnP [] 2 3 (b__law_same (mf__law_same n)) _ = _
  exact fnP_ok rfl rfl (sSeq_ok (sIf_f (asB_ok (b := false) (eIsiT_ok (eVar_ok rfl) rfl)) rfl) (sSeq_ret (sIf_t (bOr_t (asB_ok (b := true) (eBin_ok (eVar_ok rfl) rfl rfl))) (sRet_ok (eAnd_b (b := true) (c := true) (eBin_ok (eVar_ok rfl) rfl rfl) fun _ => eBin_ok (eVar_ok rfl) rfl rfl))))) rfl
theorem s_bool (n : Nat) (b : Bool) : mf__law_same (n + 1) [.fz (.bool b), .fz (.bool b)] = .ok (.fz (.bool true)) [.fz (.bool b), .fz (.bool b)] := by
  show fnP [] 2 3 (b__law_same (mf__law_same n)) _ = _
  have e : gEqX (.bool b) (.bool b) = some (.bool true) := by cases b <;> rfl
  exact fnP_ok rfl rfl (sSeq_ok (sIf_f (asB_ok (b := false) (eIsiT_ok (eVar_ok rfl) rfl)) rfl) (sSeq_ok (sIf_f (bOr_f (asB_ok (b := false) (eBin_ok (eVar_ok rfl) rfl rfl)) (asB_ok (b := false) (eBin_ok (eVar_ok rfl) rfl rfl))) rfl) (sSeq_ret (sIf_t (bOr_t (asB_ok (b := true) (eIsi_ok (eVar_ok rfl) rfl))) (sRet_ok (eAnd_b (b := true) (c := true) (eIsi_ok (eVar_ok rfl) rfl) fun _ => eAnd_b (b := true) (c := true) (eIsi_ok (eVar_ok rfl) rfl) fun _ => eBin_ok (eVar_ok rfl) (eVar_ok rfl) e)))))) rfl
theorem s_seq {n : Nat} {d : D} {xs : List D} (hd : d = .tuple xs ∨ d = .list xs) (hl : xs.length ≤ 1000) (h : ∀ x ∈ xs, mf__law_same n [.fz x, .fz x] = .ok (.fz (.bool true)) [.fz x, .fz x]) : mf__law_same (n + 1) [.fz d, .fz d] = .ok (.fz (.bool true)) [.fz d, .fz d] := by
  show fnP [] 2 3 (b__law_same (mf__law_same n)) _ = _
  have a1 : isiTD ["list", "tuple"] d = some (.bool true) := by rcases hd with z | z <;> subst z <;> rfl
  have a2 : ∃ b, isiD "list" d = some (.bool b) := by rcases hd with z | z <;> subst z <;> exact ⟨_, rfl⟩
  obtain ⟨b, a2⟩ := a2
  have a3 : gNeX (.bool b) (.bool b) = some (.bool false) := by cases b <;> rfl
  have a4 : gLen [d] = some (.int (xs.length : Nat)) := by rcases hd with z | z <;> subst z <;> rfl
  have a5 : ∀ k x, xs[k]? = some x → gIx d (.int (k : Nat)) = some x := fun k x e => by
    rcases hd with z | z <;> subst z
    · exact gIx_tup (n := k) rfl e
    · exact gIx_at (n := k) rfl e
  refine fnP_ok rfl rfl (sSeq_ret (sIf_t (asB_ok (eIsiT_ok (eVar_ok rfl) a1)) (sSeq_ok (sIf_f (bOr_f (asB_ok (eBin_ok (eIsi_ok (eVar_ok rfl) a2) (eIsi_ok (eVar_ok rfl) a2) a3)) (bNot_ok (b := true) (asB_ok (eIsiT_ok (eVar_ok rfl) a1)))) rfl)
    (sSeq_ok (sIf_f (asB_ok (b := false) (eBin_ok (eCall_ok (eCons_ok (eVar_ok rfl) rfl) a4) (eCall_ok (eCons_ok (eVar_ok rfl) rfl) a4) (gNeX_int.trans (by simp)))) rfl)
      (sRet_ok (eCall_ok (eCons_ok (ofO_ok (oComp_all (ρ0 := [.fz d, .fz d, .un]) (φ := fun k : Nat => PyData.int (k : Nat)) (ds := List.range xs.length) (fun _ => .bool true) (iOpt_ok (eCons_ok (eCall_ok (eCons_ok (eVar_ok rfl) rfl) a4) rfl) (rng1_ok (n := xs.length) rfl (by omega))) rfl ?_ rfl)) rfl) (blsMap.trans (by simp))))))) ) rfl
  intro k hk
  have hk := List.mem_range.mp hk
  have e : xs[k]? = some xs[k] := List.getElem?_eq_getElem hk
  exact ⟨_, _, set_nm (by simp [wipeR]), ofR_ok (eCF_ok (eCons_ok (aFz_ok (eBin_ok (eVar_ok rfl) (eVar_ok rfl) (a5 k _ e))) (eCons_ok (aFz_ok (eBin_ok (eVar_ok rfl) (eVar_ok rfl) (a5 k _ e))) rfl)) rfl (h _ (List.getElem_mem hk)) rfl), rfl⟩
theorem s_row {n : Nat} {r : List Int} (hr : r.length ≤ 1000) : mf__law_same (n + 2) [.fz (rowD r), .fz (rowD r)] = .ok (.fz (.bool true)) [.fz (rowD r), .fz (rowD r)] :=
  s_seq (.inl rfl) (by simpa using hr) fun x hx => by obtain ⟨i, _, rfl⟩ := List.mem_map.mp hx; exact s_int n i
theorem shp_rows {T : Tb} (s : Shp T) (hn : T.length ≤ 1000) : ∀ r ∈ T, r.length ≤ 1000 := fun r hr => by
  obtain ⟨j, hj⟩ := List.getElem?_of_mem hr
  have hjl : j < T.length := by
    rcases Nat.lt_or_ge j T.length with z | z
    · exact z
    · rw [List.getElem?_eq_none z] at hj; cases hj
  have := s j hjl
  rw [show T.getD j [] = r by simp [List.getD, hj]] at this
  omega
theorem s_tab {n : Nat} {T : Tb} (s : Shp T) (hn : T.length ≤ 1000) : mf__law_same (n + 3) [.fz (tabD T), .fz (tabD T)] = .ok (.fz (.bool true)) [.fz (tabD T), .fz (tabD T)] :=
  s_seq (.inl rfl) (by simpa using hn) fun x hx => by obtain ⟨r, hr, rfl⟩ := List.mem_map.mp hx; exact s_row (shp_rows s hn r hr)
theorem e_same {T : Tb} (s : Shp T) (hn : T.length ≤ 1000) : m__law_same [.fz (tabD T), .fz (tabD T)] = .ok (.fz (.bool true)) [.fz (tabD T), .fz (tabD T)] := s_tab s hn
theorem e_same2 {T : Tb} (s : Shp T) (hn : T.length ≤ 1000) : m__law_same [.fz (.list [tabD T, tabD T]), .fz (.list [tabD T, tabD T])] = .ok (.fz (.bool true)) [.fz (.list [tabD T, tabD T]), .fz (.list [tabD T, tabD T])] :=
  s_seq (.inr rfl) (by simp) fun x hx => by
    have : x = tabD T := by simpa using hx
    subst this; exact s_tab s hn
theorem e_is_integer2 {x hi : Int} (h0 : 0 ≤ x) (h1 : x ≤ hi) : m_is_integer [.fz (.int x), .fz (.int 0), .fz (.int hi)] = .ok (.fz (.bool true)) [.fz (.int x), .fz (.int 0), .fz (.int hi)] :=
  fnP_ok rfl rfl (sSeq_ok (sIf_f (bOr_f (bNot_ok (b := true) (asB_ok (eIsi_ok (eVar_ok rfl) rfl))) (asB_ok (b := false) (eIsi_ok (eVar_ok rfl) rfl))) rfl) (sRet_ok (eAnd_b (b := true) (c := true) (eBin_ok (eVar_ok rfl) (eVar_ok rfl) (congrArg (fun x => some (PyData.bool x)) (decide_eq_true h0))) fun _ => eOr_b (b := false) (c := true) (eBin_ok (eVar_ok rfl) rfl rfl) fun _ => eBin_ok (eVar_ok rfl) (eVar_ok rfl) (congrArg (fun x => some (PyData.bool x)) (decide_eq_true h1))))) rfl
theorem e_check_number {n : Nat} (hn : 0 < n) : m_check_number [.fz (.int n)] = .ok (.fz .none) [.fz (.int n)] := by
  have e : m_is_integer [.fz (.int n), .fz (.int 1), .fz .none] = .ok (.fz (.bool true)) [.fz (.int n), .fz (.int 1), .fz .none] :=
    fnP_ok rfl rfl (sSeq_ok (sIf_f (bOr_f (bNot_ok (b := true) (asB_ok (eIsi_ok (eVar_ok rfl) rfl))) (asB_ok (b := false) (eIsi_ok (eVar_ok rfl) rfl))) rfl) (sRet_ok (eAnd_b (b := true) (c := true) (eBin_ok (eVar_ok rfl) (eVar_ok rfl) (congrArg (fun x => some (PyData.bool x)) (decide_eq_true (by omega)))) fun _ => eOr_b (b := true) (c := true) (eBin_ok (eVar_ok rfl) rfl rfl) fun z => Bool.noConfusion z))) rfl
  exact fnP_next rfl rfl (sIf_f (bNot_ok (b := true) (asB_ok (ofR_ok (eCF_ok (eCons_ok (aFz_ok (eVar_ok rfl)) (eCons_ok (aFz_ok rfl) (eCons_ok (aFz_ok rfl) rfl))) rfl e rfl)))) rfl) rfl
theorem all_range {α : Type} [Inhabited α] {f : α → Bool} (l : List α) : l.all f = (List.range l.length).all fun k => f (l.getD k default) := by
  rw [Bool.eq_iff_iff]
  simp only [List.all_eq_true, List.mem_range]
  constructor
  · intro h k hk
    simp only [List.getD, List.getElem?_eq_getElem hk, Option.getD_some]
    exact h _ (List.getElem_mem hk)
  · intro h x hx
    obtain ⟨k, hk⟩ := List.getElem?_of_mem hx
    have hl : k < l.length := by
      rcases Nat.lt_or_ge k l.length with z | z
      · exact z
      · rw [List.getElem?_eq_none z] at hk; cases hk
    have := h k hl
    simpa [List.getD, hk] using this
end My

/-! K08e: bounds evaluated. -/
namespace My
open PySem PySem.Spec L2 DL
def hiD : Option Int → D
  | none => .none
  | some h => .int h
def bdD (b : Bd) : D := .tuple [.int b.1, .int b.2.1, .int b.2.2.1, hiD b.2.2.2]
def tdD (bs : List Bd) : D := .tuple (bs.map bdD)
theorem set_tp4 {i j k l : Nat} {a b c e : D} {ρ : Rho} (hi : i < ρ.length) (hj : j < ρ.length) (hk : k < ρ.length) (hl : l < ρ.length) : (Tg.tp [.nm i, .nm j, .nm k, .nm l]).set (.tuple [a, b, c, e]) ρ = some ((((ρ.set i (.fz a)).set j (.fz b)).set k (.fz c)).set l (.fz e)) := by
  simp [Tg.set, Tg.setAll, hi, hj, hk, hl]
theorem hi_none (h : Option Int) : gIs (hiD h) .none = some (.bool h.isNone) := by cases h <;> rfl
theorem hi_some (h : Option Int) : gIsN (hiD h) .none = some (.bool h.isSome) := by cases h <;> rfl
theorem e_is_from {x lo : Int} (h : lo ≤ x) : m_is_integer [.fz (.int x), .fz (.int lo), .fz .none] = .ok (.fz (.bool true)) [.fz (.int x), .fz (.int lo), .fz .none] :=
  fnP_ok rfl rfl (sSeq_ok (sIf_f (bOr_f (bNot_ok (b := true) (asB_ok (eIsi_ok (eVar_ok rfl) rfl))) (asB_ok (b := false) (eIsi_ok (eVar_ok rfl) rfl))) rfl) (sRet_ok (eAnd_b (b := true) (c := true) (eBin_ok (eVar_ok rfl) (eVar_ok rfl) (congrArg (fun x => some (PyData.bool x)) (decide_eq_true h))) fun _ => eOr_b (b := true) (c := true) (eBin_ok (eVar_ok rfl) rfl rfl) fun z => Bool.noConfusion z))) rfl
theorem e_is_bound {n : Nat} {b : Bd} (h : BdOk n b) : m_is_bound [.fz (.int n), .fz (bdD b)] = .ok (.fz (.bool true)) [.fz (.int n), .fz (bdD b)] := by
  have h1 := h.h1
  have h2 := h.h2
  have i1 : m_is_integer [.fz (.int b.1), .fz (.int 0), .fz (.int ((n : Int) - 1))] = .ok (.fz (.bool true)) [.fz (.int b.1), .fz (.int 0), .fz (.int ((n : Int) - 1))] := e_is_integer2 (by omega) (by omega)
  have i2 : m_is_integer [.fz (.int b.2.1), .fz (.int 0), .fz (.int ((n : Int) - 1))] = .ok (.fz (.bool true)) [.fz (.int b.2.1), .fz (.int 0), .fz (.int ((n : Int) - 1))] := e_is_integer2 (by omega) (by omega)
  have i3 := e_is_from h.lo
  have ne : gEqX (.int (b.1 : Int)) (.int (b.2.1 : Int)) = some (.bool false) := gEqX_int.trans (by have := h.ne; simp only [Option.some.injEq, PyData.bool.injEq, decide_eq_false_iff_not]; omega)
  refine fnP_ok rfl rfl (sSeq_ok (sIf_f (bOr_f (bNot_ok (b := true) (asB_ok (eIsi_ok (eVar_ok rfl) rfl))) (asB_ok (b := false) (eBin_ok (eCall_ok (eCons_ok (eVar_ok rfl) rfl) gLen_tup) rfl gNeX_int))) rfl)
    (sSeq_ok (sAsgG_ok (eVar_ok rfl) (set_tp4 (by simp) (by simp) (by simp) (by simp))) (sSeq_ok (sSet_ok (eIf_f (asB_ok (eBin_ok (eVar_ok rfl) rfl rfl)) (eBin_ok (z := .int ((n : Int) - 1)) (eVar_ok rfl) rfl rfl)) (by simp))
      (sSeq_ok (sIf_f (bOr_f (bNot_ok (b := true) (asB_ok (ofR_ok (eCF_ok (eCons_ok (aFz_ok (eVar_ok rfl)) (eCons_ok (aFz_ok rfl) (eCons_ok (aFz_ok (eVar_ok rfl)) rfl))) rfl i1 rfl)))) (bOr_f (bNot_ok (b := true) (asB_ok (ofR_ok (eCF_ok (eCons_ok (aFz_ok (eVar_ok rfl)) (eCons_ok (aFz_ok rfl) (eCons_ok (aFz_ok (eVar_ok rfl)) rfl))) rfl i2 rfl)))) (asB_ok (eBin_ok (eVar_ok rfl) (eVar_ok rfl) ne)))) rfl)
        (sRet_ok (eAnd_b (b := true) (c := true) (ofR_ok (eCF_ok (eCons_ok (aFz_ok (eVar_ok rfl)) (eCons_ok (aFz_ok rfl) (eCons_ok (aFz_ok rfl) rfl))) rfl i3 rfl)) fun _ => ?_))))) ) rfl
  have := h.hi
  obtain ⟨a, c, lo, hi⟩ := b
  cases hi with
  | none => exact eOr_b (b := true) (c := true) (eBin_ok (eVar_ok rfl) rfl rfl) fun z => Bool.noConfusion z
  | some x => exact eOr_b (b := false) (c := true) (eBin_ok (eVar_ok rfl) rfl rfl) fun _ => ofR_ok (eCF_ok (eCons_ok (aFz_ok (eVar_ok rfl)) (eCons_ok (aFz_ok (eVar_ok rfl)) (eCons_ok (aFz_ok rfl) rfl))) rfl (e_is_from (this x rfl)) rfl)
theorem e_check_told {n : Nat} {bs : List Bd} (ok : ∀ b ∈ bs, BdOk n b) : m_check_told [.fz (.int n), .fz (tdD bs)] = .ok (.fz .none) [.fz (.int n), .fz (tdD bs)] := by
  have all : gAll [.list (bs.map fun _ => PyData.bool true)] = some (.bool true) := by rw [blsMap]; simp
  exact fnP_next rfl rfl (sIf_f (bOr_f (bNot_ok (b := true) (asB_ok (eIsi_ok (eVar_ok rfl) rfl))) (bNot_ok (b := true) (asB_ok (eCall_ok (eCons_ok (ofO_ok (oComp_all (ρ0 := [.fz (.int n), .fz (tdD bs), .un]) (φ := bdD) (ds := bs) (fun _ => .bool true) (iSeq_any (eVar_ok rfl) rfl) rfl (fun b hb => ⟨_, _, set_nm (by simp [wipeR]), ofR_ok (eCF_ok (eCons_ok (aFz_ok (eVar_ok rfl)) (eCons_ok (aFz_ok (eVar_ok rfl)) rfl)) rfl (e_is_bound (ok b hb)) rfl), rfl⟩) rfl)) rfl) all)))) rfl) rfl
theorem e_check_both {n : Nat} {bs : List Bd} (ok : ∀ b ∈ bs, BdOk n b) (hn : 0 < n) : m_check_both [.fz (.int n), .fz (tdD bs)] = .ok (.fz .none) [.fz (.int n), .fz (tdD bs)] :=
  fnP_next rfl rfl (sSeq_ok (sDrop_ok (ofR_ok (eCF_ok (eCons_ok (aFz_ok (eVar_ok rfl)) rfl) rfl (e_check_number hn) rfl))) (sDrop_ok (ofR_ok (eCF_ok (eCons_ok (aFz_ok (eVar_ok rfl)) (eCons_ok (aFz_ok (eVar_ok rfl)) rfl)) rfl (e_check_told ok) rfl)))) rfl
/-! ### lows -/
theorem eqv_rowD (r s : List Int) : PyData.eqv (rowD r) (rowD s) = decide (r = s) := by unfold rowD; rw [PyData.eqv]; exact eqv_row r s
theorem gIn_pair {b : Bd} {i j : Nat} : gIn (.tuple [.int b.1, .int b.2.1]) (.tuple [.tuple [.int i, .int j], .tuple [.int j, .int i]]) = some (.bool (onP i j b)) := by
  have h : memD (rowD [(b.1 : Int), (b.2.1 : Int)]) (tabD [[(i : Int), (j : Int)], [(j : Int), (i : Int)]]) = some (onP i j b) := by
    show (if (SeqAt.shaped (rowD [(b.1 : Int), (b.2.1 : Int)]) && SeqAt.shaped (tabD [[(i : Int), (j : Int)], [(j : Int), (i : Int)]])) = true then some (inD (rowD [(b.1 : Int), (b.2.1 : Int)]) [rowD [(i : Int), (j : Int)], rowD [(j : Int), (i : Int)]]) else none) = _
    rw [shaped_of can_row (by decide), shaped_of can_tab (by decide)]
    simp only [Bool.and_self, if_true]
    congr 1
    unfold inD onP
    rw [List.any_cons, List.any_cons, List.any_nil, eqv_rowD, eqv_rowD, Bool.or_false]
    rw [Bool.eq_iff_iff]
    simp only [Bool.or_eq_true, decide_eq_true_eq, List.cons.injEq, and_true]
    omega
  show (memD (rowD [(b.1 : Int), (b.2.1 : Int)]) (tabD [[(i : Int), (j : Int)], [(j : Int), (i : Int)]])).map PyData.bool = _
  rw [h]; rfl
theorem e_low_of {bs : List Bd} {i j : Nat} (hl : bs.length ≤ 1000) : m_low_of [.fz (tdD bs), .fz (.int i), .fz (.int j)] = .ok (.fz (.int (lowA bs i j))) [.fz (tdD bs), .fz (.int i), .fz (.int j)] := by
  have fl := List.length_filter_le (onP i j) bs
  refine fnP_ok rfl rfl (sRet_ok (eCall_ok (eCons_ok (eBin_ok (ofO_ok (oLst_ok (eCons_ok rfl rfl) (by simp))) (ofO_ok (oComp_map (ρ0 := [.fz (tdD bs), .fz (.int i), .fz (.int j), .un, .un, .un, .un]) (φ := bdD) (ds := bs) (onP i j) (fun b => .int b.2.2.1) (iSeq_any (eVar_ok rfl) rfl) rfl (fun b hb => ⟨_, _, _, set_tp4 (by simp [wipeR]) (by simp [wipeR]) (by simp [wipeR]) (by simp [wipeR]), asB_ok (eBin_ok (eTup_ok (eCons_ok (eVar_ok rfl) (eCons_ok (eVar_ok rfl) rfl)) (by simp)) (eTup_ok (eCons_ok (eTup_ok (eCons_ok (eVar_ok rfl) (eCons_ok (eVar_ok rfl) rfl)) (by simp)) (eCons_ok (eTup_ok (eCons_ok (eVar_ok rfl) (eCons_ok (eVar_ok rfl) rfl)) (by simp)) rfl)) (by simp)) gIn_pair), fun _ => eVar_ok rfl, by split <;> rfl⟩) rfl)) (gAdd_lst (by simp only [List.length_cons, List.length_nil, List.length_map]; omega))) rfl) (gMaxL (x := 0) (r := (bs.filter (onP i j)).map fun b => b.2.2.1) (by simp)))) rfl
theorem e_lows_of {n : Nat} {bs : List Bd} (hl : bs.length ≤ 1000) (hn : n ≤ 1000) : m_lows_of [.fz (.int n), .fz (tdD bs)] = .ok (.fz (tabD (lowT n bs))) [.fz (.int n), .fz (tdD bs)] := by
  refine fnP_ok rfl rfl (sRet_ok (eCall_ok (eCons_ok (ofO_ok (oComp_all (ρ0 := [.fz (.int n), .fz (tdD bs), .un, .un]) (φ := fun i : Nat => PyData.int (i : Nat)) (ds := List.range n) (fun i => rowD ((List.range i).map fun j => lowA bs i j)) (iOpt_ok (eCons_ok (eVar_ok rfl) rfl) (rng1_ok (n := n) rfl (by omega))) rfl (fun i hi => ⟨_, _, set_nm (by simp [wipeR]), eCall_ok (eCons_ok (ofO_ok (oComp_all (ρ0 := [.fz (.int n), .fz (tdD bs), .fz (.int i), .un]) (φ := fun j : Nat => PyData.int (j : Nat)) (ds := List.range i) (fun j => .int (lowA bs i j)) (iOpt_ok (eCons_ok (eVar_ok rfl) rfl) (rng1_ok (n := i) rfl (by have := List.mem_range.mp hi; omega))) rfl (fun j hj => ⟨_, _, set_nm (by simp [wipeR]), ofR_ok (eCF_ok (eCons_ok (aFz_ok (eVar_ok rfl)) (eCons_ok (aFz_ok (eVar_ok rfl)) (eCons_ok (aFz_ok (eVar_ok rfl)) rfl))) rfl (e_low_of hl) rfl), rfl⟩) rfl)) rfl) (gTuple_lst.trans (by unfold rowD; rw [List.map_map]; rfl)), rfl⟩) rfl)) rfl) (gTuple_lst.trans (by unfold lowT tabOf tabD; rw [List.map_map]; rfl)))) rfl
/-! ### broken -/
theorem e_is_broken {n : Nat} {b : Bd} {T : Tb} (s : Shp T) (hT : T.length = n) (h : BdOk n b) : m_is_broken [.fz (bdD b), .fz (tabD T)] = .ok (.fz (.bool (brk T b))) [.fz (bdD b), .fz (tabD T)] := by
  subst hT
  have ed := e_day_in s h.h1 h.h2 h.ne
  obtain ⟨a, c, lo, hi⟩ := b
  refine fnP_ok (ρ := [.fz (bdD (a, c, lo, hi)), .fz (tabD T), .fz (.int a), .fz (.int c), .fz (.int lo), .fz (hiD hi)]) rfl rfl (sSeq_ok (sAsgG_ok (eVar_ok rfl) (set_tp4 (by simp) (by simp) (by simp) (by simp))) (sRet_ok ?_)) rfl
  cases hi with
  | none => exact eAnd_b (b := false) (c := true) (eBin_ok (eVar_ok rfl) rfl rfl) fun z => Bool.noConfusion z
  | some x =>
    have e : brk T (a, c, lo, some x) = (true && decide (x < dyS T a c)) := by
      unfold brk under; rw [Bool.true_and, Bool.eq_iff_iff]; simp
    rw [e]
    exact eAnd_b (b := true) (eBin_ok (eVar_ok rfl) rfl rfl) fun _ => eBin_ok (ofR_ok (eCF_ok (eCons_ok (aFz_ok (eVar_ok rfl)) (eCons_ok (aFz_ok (eVar_ok rfl)) (eCons_ok (aFz_ok (eVar_ok rfl)) rfl))) rfl ed rfl)) (eVar_ok rfl) rfl
def bix (T : Tb) (bs : List Bd) (k : Nat) : Option Slot := match bs[k]? with
  | some b => if brk T b then some (.fz (.int (k : Nat))) else none
  | none => none
def optS : Option Nat → D
  | none => .none
  | some k => .int k
theorem bix_all {T : Tb} {bs : List Bd} : ∃ o : Option Nat, (List.range bs.length).findSome? (bix T bs) = o.map (fun k => Slot.fz (.int (k : Nat))) ∧ (o.isNone = bs.all fun b => !brk T b) ∧ ∀ k, o = some k → ∃ b, bs[k]? = some b ∧ brk T b = true := by
  cases h : (List.range bs.length).findSome? (bix T bs) with
  | none =>
    refine ⟨none, rfl, ?_, fun k z => by cases z⟩
    symm
    rw [Option.isNone_none, List.all_eq_true]
    intro b hb
    obtain ⟨k, hk⟩ := List.getElem?_of_mem hb
    have kl : k < bs.length := (List.getElem?_eq_some_iff.mp hk).1
    have := List.findSome?_eq_none_iff.mp h k (List.mem_range.mpr kl)
    unfold bix at this
    rw [hk] at this
    cases q : brk T b with
    | false => rfl
    | true => simp [q] at this
  | some s =>
    obtain ⟨k, hk, hs⟩ := List.exists_of_findSome?_eq_some h
    unfold bix at hs
    cases q : bs[k]? with
    | none => rw [q] at hs; cases hs
    | some b =>
      rw [q] at hs
      cases q2 : brk T b with
      | false => simp [q2] at hs
      | true =>
        simp only [q2, if_true, Option.some.injEq] at hs
        refine ⟨some k, by rw [← hs]; rfl, ?_, fun k' z => by cases z; exact ⟨b, q, q2⟩⟩
        symm
        rw [Option.isNone_some, List.all_eq_false]
        exact ⟨b, List.mem_of_getElem? q, by rw [q2]; simp⟩
theorem enum_bds {bs : List Bd} : enumD [tdD bs] = some (bs.mapIdx fun i b => PyData.tuple [.int (i : Nat), bdD b]) := by
  show some (enumL _) = _
  congr 1
  refine List.ext_getElem (by simp [enumL]) fun i h1 h2 => ?_
  simp [enumL]
theorem e_broken_index {n : Nat} {bs : List Bd} {T : Tb} (s : Shp T) (hT : T.length = n) (ok : ∀ b ∈ bs, BdOk n b) : ∃ o : Option Nat, m_broken_index [.fz (tdD bs), .fz (tabD T)] = .ok (.fz (optS o)) [.fz (tdD bs), .fz (tabD T)] ∧ (o.isNone = bs.all fun b => !brk T b) ∧ ∀ k, o = some k → ∃ b, bs[k]? = some b ∧ brk T b = true := by
  obtain ⟨o, e1, e2, e3⟩ := bix_all (T := T) (bs := bs)
  refine ⟨o, ?_, e2, e3⟩
  unfold m_broken_index b_broken_index
  refine fnP_wp rfl rfl (wp_seqR ?_)
  refine' wp_find (J := fun _ ρ => ∃ s2 s3, ρ = [.fz (tdD bs), .fz (tabD T), s2, s3]) (fun _ ρ => ∃ s2 s3, ρ = [.fz (tdD bs), .fz (tabD T), s2, s3]) (bix T bs)
    (iOpt_ok (eCons_ok (eVar_ok rfl) rfl) enum_bds) ⟨.un, .un, rfl⟩ ?st ?q
  case q =>
    intro f ρ2 hf
    rw [List.length_mapIdx, e1] at hf
    cases o with
    | none =>
      obtain ⟨rfl, s2, s3, rfl⟩ := hf
      exact .inl ⟨rfl, wp_ret eC_ok ⟨rfl, rfl⟩⟩
    | some k =>
      obtain ⟨rfl, s2, s3, rfl⟩ := hf
      exact .inr ⟨_, rfl, rfl, rfl⟩
  case st =>
    rintro k d ρ hd ⟨s2, s3, rfl⟩
    rw [List.getElem?_mapIdx] at hd
    cases hb : bs[k]? with
    | none => rw [hb] at hd; cases hd
    | some b =>
      rw [hb] at hd
      cases hd
      have eb := e_is_broken s hT (ok b (List.mem_of_getElem? hb))
      refine ⟨_, set_tp2 (by simp) (by simp), ?_⟩
      refine wp_if (asB_ok (ofR_ok (eCF_ok (eCons_ok (aFz_ok (eVar_ok rfl)) (eCons_ok (aFz_ok (eVar_ok rfl)) rfl)) rfl eb rfl))) (fun h => ?_) (fun h => ?_)
      · have : bix T bs k = some (.fz (.int (k : Nat))) := by unfold bix; rw [hb]; simp [h]
        rw [this]
        exact wp_ret (eVar_ok rfl) ⟨rfl, _, _, rfl⟩
      · have : bix T bs k = none := by unfold bix; rw [hb]; simp [h]
        rw [this]
        exact wp_next ⟨.inl rfl, _, _, rfl⟩
/-! ### kept -/
theorem e_is_kept {n : Nat} {b : Bd} {T : Tb} (s : Shp T) (hT : T.length = n) (h : BdOk n b) : m_is_kept [.fz (tabD T), .fz (bdD b)] = .ok (.fz (.bool (hold T b))) [.fz (tabD T), .fz (bdD b)] := by
  subst hT
  have ed := e_day_in s h.h1 h.h2 h.ne
  obtain ⟨a, c, lo, hi⟩ := b
  refine fnP_ok rfl rfl (sSeq_ok (sAsgG_ok (eVar_ok rfl) (set_tp4 (by simp) (by simp) (by simp) (by simp))) (sSeq_ok (sSet_ok (ofR_ok (eCF_ok (eCons_ok (aFz_ok (eVar_ok rfl)) (eCons_ok (aFz_ok (eVar_ok rfl)) (eCons_ok (aFz_ok (eVar_ok rfl)) rfl))) rfl ed rfl)) (by simp)) (sRet_ok (eAnd_b (eBin_ok (eVar_ok rfl) (eVar_ok rfl) rfl) fun _ => ?_)))) rfl
  cases hi with
  | none => exact eOr_b (b := true) (c := true) (eBin_ok (eVar_ok rfl) rfl rfl) fun z => Bool.noConfusion z
  | some x => exact eOr_b (b := false) (eBin_ok (eVar_ok rfl) rfl rfl) fun _ => eBin_ok (eVar_ok rfl) (eVar_ok rfl) rfl
theorem e_keeps {n dm : Nat} {bs : List Bd} {T : Tb} (h : HisN n dm T) (hn : 0 < n) (hn2 : n ≤ 1000) (ok : ∀ b ∈ bs, BdOk n b) : m_keeps [.fz (tabD T), .fz (tdD bs)] = .ok (.fz (.bool (keep T bs))) [.fz (tabD T), .fz (tdD bs)] := by
  have lT : (T.map rowD).length = n := by rw [List.length_map, h.len]
  exact fnP_ok rfl rfl (sSeq_ok (sDrop_ok (ofR_ok (eCF_ok (eCons_ok (aFz_ok (eVar_ok rfl)) rfl) rfl (e_check_history h hn hn2) rfl))) (sSeq_ok (sDrop_ok (ofR_ok (eCF_ok (eCons_ok (aFz_ok (eCall_ok (eCons_ok (eVar_ok rfl) rfl) gLen_tup)) (eCons_ok (aFz_ok (eVar_ok rfl)) rfl)) rfl (by rw [lT]; exact e_check_told ok) rfl))) (sRet_ok (eCall_ok (eCons_ok (ofO_ok (oComp_all (ρ0 := [.fz (tabD T), .fz (tdD bs), .un]) (φ := bdD) (ds := bs) (fun b => .bool (hold T b)) (iSeq_any (eVar_ok rfl) rfl) rfl (fun b hb => ⟨_, _, set_nm (by simp [wipeR]), ofR_ok (eCF_ok (eCons_ok (aFz_ok (eVar_ok rfl)) (eCons_ok (aFz_ok (eVar_ok rfl)) rfl)) rfl (e_is_kept h.shp h.len (ok b hb)) rfl), rfl⟩) rfl)) rfl) blsMap)))) rfl
theorem e_law_holds {n : Nat} {b : Bd} {T : Tb} (s : Shp T) (hT : T.length = n) (h : BdOk n b) : m__law_holds [.fz (tabD T), .fz (bdD b)] = .ok (.fz (.bool (hold T b))) [.fz (tabD T), .fz (bdD b)] := by
  subst hT
  have ed := e_law_day s h.h1 h.h2 h.ne
  obtain ⟨a, c, lo, hi⟩ := b
  refine fnP_ok rfl rfl (sSeq_ok (sSet_ok (ofR_ok (eCF_ok (eCons_ok (aFz_ok (eVar_ok rfl)) (eCons_ok (aFz_ok (eBin_ok (eVar_ok rfl) rfl (z := .int (a : Int)) rfl)) (eCons_ok (aFz_ok (eBin_ok (eVar_ok rfl) rfl (z := .int (c : Int)) rfl)) rfl))) rfl ed rfl)) (by simp)) (sRet_ok (eAnd_b (eBin_ok (eBin_ok (eVar_ok rfl) rfl (z := .int lo) rfl) (eVar_ok rfl) rfl) fun _ => ?_))) rfl
  cases hi with
  | none => exact eOr_b (b := true) (c := true) (eBin_ok (eBin_ok (eVar_ok rfl) rfl (z := .none) rfl) rfl rfl) fun z => Bool.noConfusion z
  | some x => exact eOr_b (b := false) (eBin_ok (eBin_ok (eVar_ok rfl) rfl (z := .int x) rfl) rfl rfl) fun _ => eBin_ok (eVar_ok rfl) (eBin_ok (eVar_ok rfl) rfl (z := .int x) rfl) rfl
end My

/-! K08f: chains above, conflict, possible days. -/
namespace My
open PySem PySem.Spec L2 DL
theorem forL_may {g : Tg} {b : M Flw} {R : Slot → Rho → Prop} (I : Nat → Rho → Prop) : ∀ (ds : List D) (k0 : Nat) (ρ : Rho), I k0 ρ →
    (∀ k d ρ, ds[k]? = some d → I (k0 + k) ρ → ∃ ρ1, g.set d ρ = some ρ1 ∧ Wp b ρ1 fun f ρ2 => (f = .next ∧ I (k0 + k + 1) ρ2) ∨ ∃ s, f = .ret s ∧ R s ρ2) →
    Wp (forL g b ds) ρ fun f ρ2 => (f = .next ∧ I (k0 + ds.length) ρ2) ∨ ∃ s, f = .ret s ∧ R s ρ2
  | [], k0, ρ, h, _ => ⟨_, _, rfl, .inl ⟨rfl, h⟩⟩
  | d :: ds, k0, ρ, h, st => by
    obtain ⟨ρ1, e1, f, ρ2, e2, h2⟩ := st 0 d ρ rfl (by simpa using h)
    rw [Nat.add_zero] at h2
    rcases h2 with ⟨rfl, q⟩ | ⟨s, rfl, q⟩
    · obtain ⟨f', ρ3, e3, q3⟩ := forL_may I ds (k0 + 1) ρ2 q fun k d' ρ hk hi => by
        have := st (k + 1) d' ρ (by simpa using hk) (by rw [show k0 + (k + 1) = k0 + 1 + k by omega]; exact hi)
        rwa [show k0 + (k + 1) = k0 + 1 + k by omega] at this
      refine ⟨f', ρ3, ?_, ?_⟩
      · unfold forL; simp only [e1, e2]; exact e3
      · rw [show k0 + (d :: ds).length = k0 + 1 + ds.length by rw [List.length_cons]; omega]; exact q3
    · refine ⟨.ret s, ρ2, ?_, .inr ⟨s, rfl, q⟩⟩
      unfold forL; simp only [e1, e2]
theorem wp_may {mi : M (List D)} {g : Tg} {b : M Flw} {ds : List D} {ρ ρ1 : Rho} {R : Slot → Rho → Prop} {Q : Flw → Rho → Prop} (I : Nat → Rho → Prop) (hm : mi ρ = .ok ds ρ1) (h0 : I 0 ρ1)
    (st : ∀ k d ρ, ds[k]? = some d → I k ρ → ∃ ρ1, g.set d ρ = some ρ1 ∧ Wp b ρ1 fun f ρ2 => (f = .next ∧ I (k + 1) ρ2) ∨ ∃ s, f = .ret s ∧ R s ρ2)
    (q : ∀ f ρ2, ((f = .next ∧ I ds.length ρ2) ∨ ∃ s, f = .ret s ∧ R s ρ2) → Q f ρ2) : Wp (sFor mi g b) ρ Q := by
  obtain ⟨f, ρ2, e, h⟩ := forL_may (g := g) (b := b) (R := R) I ds 0 ρ1 h0 fun k d ρ hk hi => by
    simpa only [Nat.zero_add] using st k d ρ hk (by simpa only [Nat.zero_add] using hi)
  rw [Nat.zero_add] at h
  exact ⟨f, ρ2, (bind_ok hm).trans e, q f ρ2 h⟩
/-! ### chains -/
def cN (c : List Nat) : D := .tuple (c.map fun k : Nat => PyData.int (k : Nat))
def sN (c : List Nat) : D := .list (c.map fun k : Nat => PyData.int (k : Nat))
def csN (cs : List (List Nat)) : D := .list (cs.map cN)
theorem gNotIn_nats {x : Nat} {A : List Nat} : gNotIn (.int (x : Int)) (sN A) = some (.bool (!decide (x ∈ A))) := by
  have sh : SeqAt.shaped (sN A) = true := shaped_of (k := 1) ⟨canLay_lst fun y hy => by obtain ⟨i, _, rfl⟩ := List.mem_map.mp hy; rfl, by
    have := depth_all (P := 0) (xs := A.map fun k : Nat => PyData.int (k : Nat)) fun y hy => by
      obtain ⟨i, _, rfl⟩ := List.mem_map.mp hy; simp [PyData.depth]
    simp only [sN, PyData.depth]; omega⟩ (by decide)
  have e : inD (.int (x : Int)) (A.map fun k : Nat => PyData.int (k : Nat)) = decide (x ∈ A) := by
    unfold inD
    rw [List.any_map, Bool.eq_iff_iff, List.any_eq_true, decide_eq_true_eq]
    constructor
    · rintro ⟨y, hy, z⟩
      have : y = x := by have : (y : Int) = x := by simpa [PyData.eqv] using z
                         omega
      subst this; exact hy
    · intro h; exact ⟨x, h, by simp [PyData.eqv]⟩
  have h : memD (.int (x : Int)) (sN A) = some (decide (x ∈ A)) := by
    show (if (SeqAt.shaped (.int (x : Int)) && SeqAt.shaped (sN A)) = true then some (inD (.int (x : Int)) (A.map fun k : Nat => PyData.int (k : Nat))) else none) = _
    rw [sh, e]
    have : SeqAt.shaped (PyData.int (x : Int)) = true := by simp [SeqAt.shaped, PyData.canLay0, PyData.depth]
    rw [this]; rfl
  unfold gNotIn; rw [h]; rfl
def miss (n : Nat) (S : List Nat) : Nat := ((List.range n).filter fun x => decide (x ∉ S)).length
theorem filter_drop {α : Type} {p q : α → Bool} (h : ∀ y, q y = true → p y = true) : ∀ l : List α, (l.filter q).length ≤ (l.filter p).length ∧ ∀ x ∈ l, p x = true → q x = false → (l.filter q).length + 1 ≤ (l.filter p).length
  | [] => ⟨Nat.le_refl _, fun x hx => by cases hx⟩
  | y :: l => by
    obtain ⟨h1, h2⟩ := filter_drop h l
    rw [List.filter_cons, List.filter_cons]
    cases hq : q y with
    | true =>
      rw [h y hq]
      simp only [if_true, List.length_cons]
      refine ⟨by omega, fun x hx hp hn => ?_⟩
      rcases List.mem_cons.mp hx with r | r
      · subst r; rw [hq] at hn; cases hn
      · have := h2 x r hp hn; omega
    | false =>
      cases hp : p y with
      | true =>
        simp only [if_true, List.length_cons, Bool.false_eq_true, if_false]
        exact ⟨by omega, fun x hx _ _ => by omega⟩
      | false =>
        simp only [Bool.false_eq_true, if_false]
        refine ⟨h1, fun x hx hp' hn => ?_⟩
        rcases List.mem_cons.mp hx with r | r
        · subst r; rw [hp] at hp'; cases hp'
        · exact h2 x r hp' hn
theorem miss_drop {n x : Nat} {S : List Nat} (hx : x < n) (h : x ∉ S) : miss n (S ++ [x]) + 1 ≤ miss n S :=
  (filter_drop (p := fun y => decide (y ∉ S)) (q := fun y => decide (y ∉ S ++ [x])) (fun y hy => by
    simp only [decide_eq_true_eq, List.mem_append, not_or] at hy ⊢; exact hy.1) (List.range n)).2 x (List.mem_range.mpr hx) (by simpa using h) (by simp)
theorem miss_le {n : Nat} {S : List Nat} : miss n S ≤ n := by
  have := List.length_filter_le (fun x => decide (x ∉ S)) (List.range n)
  rw [List.length_range] at this; exact this
structure ChS (n : Nat) (cs : List (List Nat)) (S : List Nat) : Prop where
  c : ∀ c ∈ cs, ∃ r l, c = r ++ [l] ∧ l ∈ S ∧ c.length ≤ S.length
  lt : ∀ x ∈ S, x < n
  sz : S.length + miss n S ≤ n + 1
  few : cs.length ≤ S.length
/-- within a pass from (cs, S): what was found, what was seen -/
structure Pas (n : Nat) (S : List Nat) (ls : List (List Nat)) (S' : List Nat) : Prop where
  st : ChS n ls S'
  sub : ∀ x ∈ S, x ∈ S'
  len : S.length ≤ S'.length
  ms : miss n S' ≤ miss n S
  md : ls ≠ [] → miss n S' + 1 ≤ miss n S
theorem Pas.new {n : Nat} {S ls S'} (h : Pas n S ls S') {c : List Nat} {x : Nat} (hx : x < n) (hn : x ∉ S') (hc : c.length ≤ S'.length) : Pas n S (ls ++ [c ++ [x]]) (S' ++ [x]) := by
  have md := miss_drop hx hn
  have hm := h.ms
  have hs := h.st.sz
  refine ⟨⟨fun d hd => ?_, fun y hy => ?_, by rw [List.length_append, List.length_singleton]; omega, by have := h.st.few; simp; omega⟩, fun y hy => List.mem_append_left _ (h.sub y hy), by have := h.len; simp; omega, by omega, fun _ => by omega⟩
  · rcases List.mem_append.mp hd with z | z
    · obtain ⟨r, l, e, hl, hc⟩ := h.st.c d z
      exact ⟨r, l, e, List.mem_append_left _ hl, by simp; omega⟩
    · rw [List.mem_singleton] at z
      exact ⟨c, x, z, by simp, by rw [z]; simp; omega⟩
  · rcases List.mem_append.mp hy with z | z
    · exact h.st.lt y z
    · rw [List.mem_singleton] at z; subst z; exact hx
noncomputable section
def passB : M Flw := (sSeq (sSet 6 (ofO (oLst eNil)))
    (sSeq (sFor (iSeq (eVar 4)) (.nm 7)
    (sFor (iOpt rng1 (eCons (eCall gLen (eCons (eVar 0) eNil)) eNil)) (.nm 8)
    (sIf (bAnd (asB (eBin gNotIn (eVar 8) (eVar 5))) (asB (eBin gGt (ofR (eCallF m_day_in (eCons (aFz (eVar 0)) (eCons (aFz (eBin gIx (eVar 7) (eUn gNeg (eC (.int 1))))) (eCons (aFz (eVar 8)) eNil))))) (eVar 3))))
    (sSeq (sIf (asB (eBin gEqX (eVar 8) (eVar 2)))
    (sRet (eTup (eStar (eVar 7) (eCons (eVar 8) eNil))))
    sNext)
    (sSeq (sSet 6 (ofO (oLst (eStar (eVar 6) (eCons (eTup (eStar (eVar 7) (eCons (eVar 8) eNil))) eNil)))))
    (sSet 5 (ofO (oLst (eStar (eVar 5) (eCons (eVar 8) eNil)))))))
    sNext)))
    (sSet 4 (eVar 6))))
def condB : M Bool := asB (eBin gNeX (eVar 4) (ofO (oLst eNil)))
theorem b_chain_is : b_chain_above = sSeq (sSet 4 (ofO (oLst (eCons (eTup (eCons (eVar 1) eNil)) eNil)))) (sSeq (sSet 5 (ofO (oLst (eCons (eVar 1) eNil)))) (sSeq (whileF condB passB 1048576) (sRet (eC .none)))) := rfl
end
theorem pass_ok {L : Tb} {n : Nat} (s : Shp L) (hL : L.length = n) (hn : n ≤ 1000) {a1 : Slot} {o : Nat} {day : Int} {cs : List (List Nat)} {S : List Nat} {s6 s7 s8 : Slot} (h : ChS n cs S) :
    Wp passB [.fz (tabD L), a1, .fz (.int o), .fz (.int day), .fz (csN cs), .fz (sN S), s6, s7, s8] fun f ρ => (f = .next ∧ ∃ ls S' s6 s7 s8, Pas n S ls S' ∧ ρ = [.fz (tabD L), a1, .fz (.int o), .fz (.int day), .fz (csN ls), .fz (sN S'), s6, s7, s8]) ∨
      ∃ d, f = .ret (.fz d) ∧ ∃ s4 s5 s6 s7 s8, ρ = [.fz (tabD L), a1, .fz (.int o), .fz (.int day), s4, s5, s6, s7, s8] := by
  have hs0 := h.sz
  unfold passB
  refine wp_set (ofO_ok (oLst_ok eNil_ok (by simp))) (by simp) (wp_seqR ?_)
  refine' wp_may (R := fun t ρ => ∃ d, t = .fz d ∧ ∃ s4 s5 s6 s7 s8, ρ = [.fz (tabD L), a1, .fz (.int o), .fz (.int day), s4, s5, s6, s7, s8])
    (fun _ ρ => ∃ ls S' s7 s8, Pas n S ls S' ∧ ρ = [.fz (tabD L), a1, .fz (.int o), .fz (.int day), .fz (csN cs), .fz (sN S'), .fz (csN ls), s7, s8])
    (iSeq_any (eVar_ok rfl) rfl) ⟨[], S, s7, s8, ⟨⟨fun c hc => by (cases hc), h.lt, h.sz, Nat.zero_le _⟩, fun x hx => hx, Nat.le_refl _, Nat.le_refl _, fun z => absurd rfl z⟩, rfl⟩ ?st ?q
  case q =>
    rintro f ρ2 (⟨rfl, ls, S', s7, s8, hp, rfl⟩ | ⟨t, rfl, d, rfl, s4, s5, s6, s7, s8, rfl⟩)
    · exact .inl ⟨rfl, wp_ok (sSet_ok (eVar_ok rfl) (by simp)) (.inl ⟨rfl, ls, S', _, _, _, hp, rfl⟩)⟩
    · exact .inr ⟨_, rfl, .inr ⟨d, rfl, _, _, _, _, _, rfl⟩⟩
  case st =>
    rintro k d ρ hd ⟨ls, S', s7, s8, hp, rfl⟩
    rw [List.getElem?_map] at hd
    cases hc : cs[k]? with
    | none => rw [hc] at hd; cases hd
    | some c =>
      rw [hc] at hd
      cases hd
      obtain ⟨r, l, hcl, hlS, hcn⟩ := h.c c (List.mem_of_getElem? hc)
      refine ⟨_, set_nm (by simp), ?_⟩
      refine' wp_may (R := fun t ρ => ∃ d, t = .fz d ∧ ∃ s4 s5 s6 s7 s8, ρ = [.fz (tabD L), a1, .fz (.int o), .fz (.int day), s4, s5, s6, s7, s8])
        (fun _ ρ => ∃ ls S' s8, Pas n S ls S' ∧ ρ = [.fz (tabD L), a1, .fz (.int o), .fz (.int day), .fz (csN cs), .fz (sN S'), .fz (csN ls), .fz (cN c), s8])
        (iOpt_ok (eCons_ok (eCall_ok (eCons_ok (eVar_ok rfl) rfl) gLen_tup) rfl) (rng1_ok (n := n) (by rw [List.length_map, hL]) (by omega))) ⟨ls, S', s8, hp, rfl⟩ ?st2 ?q2
      case q2 =>
        rintro f ρ2 (⟨rfl, ls, S', s8, hp, rfl⟩ | ⟨t, rfl, d, rfl, s4, s5, s6, s7, s8, rfl⟩)
        · exact .inl ⟨rfl, ls, S', _, _, hp, rfl⟩
        · exact .inr ⟨_, rfl, d, rfl, _, _, _, _, _, rfl⟩
      case st2 =>
        rintro x d ρ hd ⟨ls, S', s8, hp, rfl⟩
        obtain ⟨hx, rfl⟩ := range_at hd
        have hs1 := hp.st.sz
        have hf := hp.st.few
        have hle := hp.len
        have gl : gIx (cN c) (.int (-1)) = some (.int (l : Int)) := by
          have : cN c = .tuple (r.map (fun k : Nat => PyData.int (k : Nat)) ++ [.int (l : Int)]) := by unfold cN; rw [hcl, List.map_append]; rfl
          rw [this]
          exact gIx_last (ds := r.map fun k : Nat => PyData.int (k : Nat)) rfl
        have cl : (c.map fun k : Nat => PyData.int (k : Nat)).length = c.length := by simp
        have t1 : ((c.map fun k : Nat => PyData.int (k : Nat)) ++ [PyData.int (x : Nat)]).length ≤ 16777216 := by simp; omega
        refine ⟨_, set_nm (by simp), ?_⟩
        by_cases q : x ∈ S'
        · exact wp_ok (sIf_f (bAnd_f (asB_ok (b := false) (eBin_ok (eVar_ok rfl) (eVar_ok rfl) (gNotIn_nats.trans (by simp [q]))))) rfl) (.inl ⟨rfl, ls, S', _, hp, rfl⟩)
        · have hl := hp.sub l hlS
          have ne : l ≠ x := fun e => q (e ▸ hl)
          have ed := e_day_in s (i := l) (j := x) (by rw [hL]; exact hp.st.lt l hl) (by rw [hL]; exact hx) ne
          have q1 : gNotIn (.int ((x : Nat) : Int)) (sN S') = some (.bool true) := gNotIn_nats.trans (by simp [q])
          refine wp_if (k := decide (day < dyS L l x)) (bAnd_t (asB_ok (eBin_ok (eVar_ok rfl) (eVar_ok rfl) q1)) (asB_ok (eBin_ok (ofR_ok (eCF_ok (eCons_ok (aFz_ok (eVar_ok rfl)) (eCons_ok (aFz_ok (eBin_ok (eVar_ok rfl) (eUn_ok rfl rfl) gl)) (eCons_ok (aFz_ok (eVar_ok rfl)) rfl))) rfl ed rfl)) (eVar_ok rfl) rfl))) (fun _ => wp_seqR ?_) (fun _ => ?_)
          · refine wp_if (asB_ok (eBin_ok (eVar_ok rfl) (eVar_ok rfl) gEqX_int)) (fun _ => ?_) (fun _ => ?_)
            · exact wp_ret (eTup_ok (eStar_tup (eVar_ok rfl) (eCons_ok (eVar_ok rfl) rfl)) t1) (.inr ⟨_, rfl, .inr ⟨_, rfl, _, rfl, _, _, _, _, _, rfl⟩⟩)
            · refine wp_next (.inl ⟨rfl, ?_⟩)
              refine wp_set (ofO_ok (oLst_ok (eStar_lst (eVar_ok rfl) (eCons_ok (eTup_ok (eStar_tup (eVar_ok rfl) (eCons_ok (eVar_ok rfl) rfl)) t1) rfl)) (by simp; omega))) (by simp) ?_
              refine wp_ok (sSet_ok (ofO_ok (oLst_ok (eStar_lst (eVar_ok rfl) (eCons_ok (eVar_ok rfl) rfl)) (by simp; omega))) (by simp)) (.inl ⟨rfl, ls ++ [c ++ [x]], S' ++ [x], .fz (.int (x : Nat)), hp.new hx q (by omega), ?_⟩)
              simp [csN, cN, sN]
          · exact wp_next (.inl ⟨rfl, ls, S', _, hp, rfl⟩)
theorem while_ok {L : Tb} {n : Nat} (s : Shp L) (hL : L.length = n) (hn : n ≤ 1000) {a1 : Slot} {o : Nat} {day : Int} : ∀ (fuel : Nat) (cs : List (List Nat)) (S : List Nat) (s6 s7 s8 : Slot), ChS n cs S → ((cs = [] ∧ 1 ≤ fuel) ∨ miss n S + 2 ≤ fuel) →
    Wp (whileF condB passB fuel) [.fz (tabD L), a1, .fz (.int o), .fz (.int day), .fz (csN cs), .fz (sN S), s6, s7, s8] fun f ρ => (f = .next ∨ ∃ d, f = .ret (.fz d)) ∧ ∃ s4 s5 s6 s7 s8, ρ = [.fz (tabD L), a1, .fz (.int o), .fz (.int day), s4, s5, s6, s7, s8]
  | 0, cs, S, s6, s7, s8, h, hf => by rcases hf with ⟨_, z⟩ | z <;> omega
  | fuel + 1, cs, S, s6, s7, s8, h, hf => by
    unfold whileF
    have ec : condB [.fz (tabD L), a1, .fz (.int o), .fz (.int day), .fz (csN cs), .fz (sN S), s6, s7, s8] = .ok (!(cs.map cN).isEmpty) [.fz (tabD L), a1, .fz (.int o), .fz (.int day), .fz (csN cs), .fz (sN S), s6, s7, s8] := asB_ok (eBin_ok (eVar_ok rfl) (ofO_ok (oLst_ok eNil_ok (by simp))) gNeX_lst0)
    cases cs with
    | nil => exact ⟨.next, _, (bind_ok ec).trans rfl, .inl rfl, _, _, _, _, _, rfl⟩
    | cons c cs =>
      have hf : miss n S + 2 ≤ fuel + 1 := by rcases hf with ⟨z, _⟩ | z; cases z; exact z
      obtain ⟨f, ρ2, e2, hr⟩ := pass_ok s hL hn (a1 := a1) (o := o) (day := day) (s6 := s6) (s7 := s7) (s8 := s8) h
      rcases hr with ⟨rfl, ls, S', s6, s7, s8, hp, rfl⟩ | ⟨d, rfl, s4, s5, s6, s7, s8, rfl⟩
      · obtain ⟨f', ρ3, e3, h3⟩ := while_ok s hL hn (a1 := a1) (o := o) (day := day) fuel ls S' s6 s7 s8 hp.st (by
          by_cases z : ls = []
          · exact .inl ⟨z, by omega⟩
          · have := hp.md z; exact .inr (by omega))
        refine ⟨f', ρ3, (bind_ok ec).trans ?_, h3⟩
        simp only [List.map_cons, List.isEmpty_cons, Bool.not_false, if_true]
        rw [bind_ok e2]; exact e3
      · refine ⟨.ret (.fz d), [.fz (tabD L), a1, .fz (.int o), .fz (.int day), s4, s5, s6, s7, s8], (bind_ok ec).trans ?_, .inr ⟨d, rfl⟩, s4, s5, s6, s7, s8, rfl⟩
        simp only [List.map_cons, List.isEmpty_cons, Bool.not_false, if_true]
        rw [bind_ok e2]; rfl
theorem e_chain_above {L : Tb} {n : Nat} (s : Shp L) (hL : L.length = n) (hn : n ≤ 1000) {a o : Nat} {day : Int} (ha : a < n) : ∃ d, m_chain_above [.fz (tabD L), .fz (.int a), .fz (.int o), .fz (.int day)] = .ok (.fz d) [.fz (tabD L), .fz (.int a), .fz (.int o), .fz (.int day)] := by
  have ms := miss_le (n := n) (S := [a])
  obtain ⟨f, ρ, e, hf, s4, s5, s6, s7, s8, rfl⟩ := while_ok s hL hn (a1 := .fz (.int a)) (o := o) (day := day) 1048576 [[a]] [a] .un .un .un ⟨fun c hc => by
    rw [List.mem_singleton] at hc; subst hc; exact ⟨[], a, rfl, by simp, by simp⟩, by simpa using ha, by simp; omega, by simp⟩ (.inr (by omega))
  have e1 : sSet 4 (ofO (oLst (eCons (eTup (eCons (eVar 1) eNil)) eNil))) ([.fz (tabD L), .fz (.int a), .fz (.int o), .fz (.int day)] ++ List.replicate (9 - 4) .un) = .ok .next [.fz (tabD L), .fz (.int a), .fz (.int o), .fz (.int day), .fz (csN [[a]]), .un, .un, .un, .un] := sSet_ok (ofO_ok (oLst_ok (eCons_ok (eTup_ok (eCons_ok (eVar_ok rfl) rfl) (by simp)) rfl) (by simp))) (by simp)
  have e2 : sSet 5 (ofO (oLst (eCons (eVar 1) eNil))) [.fz (tabD L), .fz (.int a), .fz (.int o), .fz (.int day), .fz (csN [[a]]), .un, .un, .un, .un] = .ok .next [.fz (tabD L), .fz (.int a), .fz (.int o), .fz (.int day), .fz (csN [[a]]), .fz (sN [a]), .un, .un, .un] := sSet_ok (ofO_ok (oLst_ok (eCons_ok (eVar_ok rfl) rfl) (by simp))) (by simp)
  unfold m_chain_above
  rw [b_chain_is]
  rcases hf with rfl | ⟨d, rfl⟩
  · exact ⟨.none, fnP_ok rfl rfl (sSeq_ok e1 (sSeq_ok e2 (sSeq_ok e (sRet_ok rfl)))) rfl⟩
  · exact ⟨d, fnP_ok rfl rfl (sSeq_ok e1 (sSeq_ok e2 (sSeq_ret e))) rfl⟩
/-! ### conflict -/
def clo (n : Nat) (bs : List Bd) : Tb := closeT (lowT n bs) (topOf (lowT n bs))
theorem e_clo {n : Nat} {bs : List Bd} (hn : n ≤ 1000) : m_closed [.fz (tabD (lowT n bs))] = .ok (.fz (tabD (clo n bs))) [.fz (tabD (lowT n bs))] := e_closed tabOf_shp (by unfold lowT; rw [tabOf_len]; exact hn)
theorem clo_his {n : Nat} {bs : List Bd} (ok : ∀ b ∈ bs, BdOk n b) : HisN n 9 (clo n bs) := cl_his ok _
theorem clo_his4 {n : Nat} {bs : List Bd} (ok : ∀ b ∈ bs, b.2.2.1 < 4) : HisN n 4 (clo n bs) := cl_hisD (dm := 4) (by decide) ok _
theorem e_broken {n : Nat} {bs : List Bd} (ok : ∀ b ∈ bs, BdOk n b) : ∃ o : Option Nat, m_broken_index [.fz (tdD bs), .fz (tabD (clo n bs))] = .ok (.fz (optS o)) [.fz (tdD bs), .fz (tabD (clo n bs))] ∧ o.isNone = keep (clo n bs) bs ∧ ∀ k, o = some k → ∃ b, bs[k]? = some b ∧ brk (clo n bs) b = true := by
  obtain ⟨o, e1, e2, e3⟩ := e_broken_index (n := n) (clo_his ok).shp (clo_his ok).len ok
  refine ⟨o, e1, e2.trans ?_, e3⟩
  symm; exact cl_keep ok _
theorem gIs_optS (o : Option Nat) : gIs (optS o) .none = some (.bool o.isNone) := by cases o <;> rfl
theorem gIsN_optS (o : Option Nat) : gIsN (optS o) .none = some (.bool !o.isNone) := by cases o <;> rfl
theorem e_is_possible {n : Nat} {bs : List Bd} (ok : ∀ b ∈ bs, BdOk n b) (hn : 0 < n) (hn2 : n ≤ 1000) (hl : bs.length ≤ 1000) : m_is_possible [.fz (.int n), .fz (tdD bs)] = .ok (.fz (.bool (keep (clo n bs) bs))) [.fz (.int n), .fz (tdD bs)] := by
  obtain ⟨o, e1, e2, e3⟩ := e_broken ok
  exact fnP_ok rfl rfl (sSeq_ok (sDrop_ok (ofR_ok (eCF_ok (eCons_ok (aFz_ok (eVar_ok rfl)) (eCons_ok (aFz_ok (eVar_ok rfl)) rfl)) rfl (e_check_both ok hn) rfl))) (sRet_ok (eBin_ok (ofR_ok (eCF_ok (eCons_ok (aFz_ok (eVar_ok rfl)) (eCons_ok (aFz_ok (ofR_ok (eCF_ok (eCons_ok (aFz_ok (ofR_ok (eCF_ok (eCons_ok (aFz_ok (eVar_ok rfl)) (eCons_ok (aFz_ok (eVar_ok rfl)) rfl)) rfl (e_lows_of hl hn2) rfl))) rfl) rfl (e_clo hn2) rfl))) rfl)) rfl e1 rfl)) rfl ((gIs_optS o).trans (by rw [e2]))))) rfl
theorem e_conflict {n : Nat} {bs : List Bd} (ok : ∀ b ∈ bs, BdOk n b) (hn : 0 < n) (hn2 : n ≤ 1000) (hl : bs.length ≤ 1000) : ∃ d, m_conflict [.fz (.int n), .fz (tdD bs)] = .ok (.fz d) [.fz (.int n), .fz (tdD bs)] ∧ gIs d .none = some (.bool (keep (clo n bs) bs)) := by
  obtain ⟨o, e1, e2, e3⟩ := e_broken ok
  have key : ∃ d, m_conflict_in [.fz (.int n), .fz (tdD bs)] = .ok (.fz d) [.fz (.int n), .fz (tdD bs)] ∧ gIs d .none = some (.bool (keep (clo n bs) bs)) := by
    cases o with
    | none =>
      refine ⟨.none, ?_, by rw [← e2]; rfl⟩
      exact fnP_ok rfl rfl (sSeq_ok (sSet_ok (ofR_ok (eCF_ok (eCons_ok (aFz_ok (eVar_ok rfl)) (eCons_ok (aFz_ok (eVar_ok rfl)) rfl)) rfl (e_lows_of hl hn2) rfl)) (by simp)) (sSeq_ok (sSet_ok (ofR_ok (eCF_ok (eCons_ok (aFz_ok (eVar_ok rfl)) (eCons_ok (aFz_ok (ofR_ok (eCF_ok (eCons_ok (aFz_ok (eVar_ok rfl)) rfl) rfl (e_clo hn2) rfl))) rfl)) rfl e1 rfl)) (by simp)) (sSeq_ret (sIf_t (asB_ok (b := true) (eBin_ok (eVar_ok rfl) rfl rfl)) (sRet_ok rfl))))) rfl
    | some k =>
      obtain ⟨b, hb, hbr⟩ := e3 k rfl
      have okb := ok b (List.mem_of_getElem? hb)
      obtain ⟨a, c, lo, hi⟩ := b
      cases hi with
      | none => exact absurd hbr (by simp [brk, under])
      | some x =>
        obtain ⟨d, ed⟩ := e_chain_above (L := lowT n bs) (n := n) (a := a) (o := c) (day := x) tabOf_shp tabOf_len hn2 okb.h1
        have gb : gIx (tdD bs) (.int (k : Nat)) = some (bdD (a, c, lo, some x)) := gIx_tup (n := k) rfl (map_at hb)
        refine ⟨.tuple [.int (k : Nat), d], ?_, by rw [← e2]; rfl⟩
        exact fnP_ok rfl rfl (sSeq_ok (sSet_ok (ofR_ok (eCF_ok (eCons_ok (aFz_ok (eVar_ok rfl)) (eCons_ok (aFz_ok (eVar_ok rfl)) rfl)) rfl (e_lows_of hl hn2) rfl)) (by simp)) (sSeq_ok (sSet_ok (ofR_ok (eCF_ok (eCons_ok (aFz_ok (eVar_ok rfl)) (eCons_ok (aFz_ok (ofR_ok (eCF_ok (eCons_ok (aFz_ok (eVar_ok rfl)) rfl) rfl (e_clo hn2) rfl))) rfl)) rfl e1 rfl)) (by simp)) (sSeq_ok (sIf_f (asB_ok (b := false) (eBin_ok (eVar_ok rfl) rfl rfl)) rfl)
          (sSeq_ok (sAsgG_ok (eBin_ok (eVar_ok rfl) (eVar_ok rfl) gb) (set_tp4 (by simp) (by simp) (by simp) (by simp))) (sRet_ok (eTup_ok (eCons_ok (eVar_ok rfl) (eCons_ok (ofR_ok (eCF_ok (eCons_ok (aFz_ok (eVar_ok rfl)) (eCons_ok (aFz_ok (eVar_ok rfl)) (eCons_ok (aFz_ok (eVar_ok rfl)) (eCons_ok (aFz_ok (eVar_ok rfl)) rfl)))) rfl ed rfl)) rfl)) (by simp))))))) rfl
  obtain ⟨d, ed, gd⟩ := key
  exact ⟨d, fnP_ok rfl rfl (sSeq_ok (sDrop_ok (ofR_ok (eCF_ok (eCons_ok (aFz_ok (eVar_ok rfl)) (eCons_ok (aFz_ok (eVar_ok rfl)) rfl)) rfl (e_check_both ok hn) rfl))) (sRet_ok (ofR_ok (eCF_ok (eCons_ok (aFz_ok (eVar_ok rfl)) (eCons_ok (aFz_ok (eVar_ok rfl)) rfl)) rfl ed rfl)))) rfl, gd⟩
theorem e_earliest {n : Nat} {bs : List Bd} (ok : ∀ b ∈ bs, BdOk n b) (hn : 0 < n) (hn2 : n ≤ 1000) (hl : bs.length ≤ 1000) (hk : keep (clo n bs) bs = true) : m_earliest [.fz (.int n), .fz (tdD bs)] = .ok (.fz (tabD (clo n bs))) [.fz (.int n), .fz (tdD bs)] := by
  obtain ⟨o, e1, e2, e3⟩ := e_broken ok
  have ep : m_possible_days [.fz (.int n), .fz (tdD bs)] = .ok (.fz (tabD (clo n bs))) [.fz (.int n), .fz (tdD bs)] :=
    fnP_ok rfl rfl (sSeq_ok (sSet_ok (ofR_ok (eCF_ok (eCons_ok (aFz_ok (ofR_ok (eCF_ok (eCons_ok (aFz_ok (eVar_ok rfl)) (eCons_ok (aFz_ok (eVar_ok rfl)) rfl)) rfl (e_lows_of hl hn2) rfl))) rfl) rfl (e_clo hn2) rfl)) (by simp)) (sSeq_ok (sSet_ok (ofR_ok (eCF_ok (eCons_ok (aFz_ok (eVar_ok rfl)) (eCons_ok (aFz_ok (eVar_ok rfl)) rfl)) rfl e1 rfl)) (by simp)) (sSeq_ok (sIf_f (asB_ok (b := false) (eBin_ok (eVar_ok rfl) rfl ((gIsN_optS o).trans (by rw [e2, hk]; rfl)))) rfl) (sRet_ok (eVar_ok rfl))))) rfl
  exact fnP_ok rfl rfl (sSeq_ok (sDrop_ok (ofR_ok (eCF_ok (eCons_ok (aFz_ok (eVar_ok rfl)) (eCons_ok (aFz_ok (eVar_ok rfl)) rfl)) rfl (e_check_both ok hn) rfl))) (sRet_ok (ofR_ok (eCF_ok (eCons_ok (aFz_ok (eVar_ok rfl)) (eCons_ok (aFz_ok (eVar_ok rfl)) rfl)) rfl ep rfl)))) rfl
end My

/-! K08g: all histories of a few items, as the law lists them. -/
namespace My
open PySem PySem.Spec L2 DL
theorem sSetN_ok {i : Nat} {mv mk : M D} {v kd : D} {ks : List D} {ρ ρ1 ρ2 : Rho} (hv : mv ρ = .ok v ρ1) (h : ρ1[i]? = some (.own (.dN ks))) (hk : mk ρ1 = .ok kd ρ2) (h2 : ρ2[i]? = some (.own (.dN ks))) (ho : keyOkB kd = true) (hl : ks.length < 16777216) : sSetN i mv mk ρ = .ok .next (ρ2.set i (.own (.dN (putN ks kd)))) := by
  unfold sSetN; rw [bind_ok hv]; unfold slotN; simp only [h]; rw [bind_ok hk]; simp only [h2]; rw [if_pos ⟨ho, hl⟩]
theorem eSortN_ok {i : Nat} {ks : List D} {ρ : Rho} (h : ρ[i]? = some (.own (.dN ks))) (hs : sortable ks = true) : eSortN i ρ = .ok (.list (sortD ks)) ρ := by
  unfold eSortN slotN; simp only [h]; rw [if_pos hs]; rfl
/-! ### tables as keys -/
theorem nk_ints : ∀ r : List Int, nkAll (r.map PyData.int) = some (r.map NestedKey.num)
  | [] => by simp [nkAll]
  | x :: r => by
    have := nk_ints r
    simp [nkAll, nkD, this]
theorem nk_row (r : List Int) : nkD (rowD r) = some (.tup (r.map NestedKey.num)) := by unfold rowD; simp [nkD, nk_ints]
def nkT (T : Tb) : List NestedKey := T.map fun r => .tup (r.map NestedKey.num)
theorem nk_rows : ∀ T : Tb, nkAll (T.map rowD) = some (nkT T)
  | [] => by simp [nkAll, nkT]
  | r :: T => by
    have := nk_rows T
    simp [nkAll, nk_row, this, nkT]
theorem nk_tab (T : Tb) : nkD (tabD T) = some (.tup (nkT T)) := by unfold tabD; simp [nkD, nk_rows]
theorem ints_inj : ∀ r s : List Int, r.map NestedKey.num = s.map NestedKey.num → r = s
  | [], [], _ => rfl
  | [], _ :: _, h => by cases h
  | _ :: _, [], h => by cases h
  | x :: r, y :: s, h => by
    simp only [List.map_cons, List.cons.injEq, NestedKey.num.injEq] at h
    rw [h.1, ints_inj r s h.2]
theorem nkT_inj : ∀ A B : Tb, nkT A = nkT B → A = B
  | [], [], _ => rfl
  | [], _ :: _, h => by cases h
  | _ :: _, [], h => by cases h
  | x :: r, y :: s, h => by
    simp only [nkT, List.map_cons, List.cons.injEq, NestedKey.tup.injEq] at h
    rw [ints_inj x y h.1, nkT_inj r s h.2]
theorem nk_eq {A B : Tb} : nkD (tabD A) = nkD (tabD B) ↔ A = B := by
  rw [nk_tab, nk_tab]
  simp only [Option.some.injEq, NestedKey.tup.injEq]
  exact ⟨nkT_inj A B, fun h => by rw [h]⟩
theorem dp_ints : ∀ r : List Int, NestedKey.depthAll (r.map NestedKey.num) = 0
  | [] => by simp [NestedKey.depthAll]
  | x :: r => by simp [NestedKey.depthAll, NestedKey.depth, dp_ints r]
theorem dp_rows : ∀ T : Tb, NestedKey.depthAll (nkT T) ≤ 1
  | [] => by simp [NestedKey.depthAll, nkT]
  | r :: T => by
    have := dp_rows T
    have e := dp_ints r
    simp only [nkT, List.map_cons, NestedKey.depthAll, NestedKey.depth] at this ⊢
    omega
theorem key_tab {T : Tb} (ne : T ≠ []) : keyOkB (tabD T) = true := by
  have d : (NestedKey.tup (nkT T)).depth ≤ 8 := by
    have := dp_rows T
    simp only [NestedKey.depth]; omega
  have e := decide_eq_true d
  unfold keyOkB
  rw [nk_tab]
  simp only [e, shaped_of can_tab (by decide)]
  cases T with
  | nil => exact absurd rfl ne
  | cons r T => rfl
def putT (L : List Tb) (T : Tb) : List Tb := if T ∈ L then L else L ++ [T]
theorem putN_tab {L : List Tb} {T : Tb} : putN (L.map tabD) (tabD T) = (putT L T).map tabD := by
  unfold putN putT
  have : ((L.map tabD).any fun e => decide (nkD e = nkD (tabD T))) = decide (T ∈ L) := by
    rw [List.any_map, Bool.eq_iff_iff, List.any_eq_true, decide_eq_true_eq]
    constructor
    · rintro ⟨A, hA, z⟩
      have := nk_eq.mp (of_decide_eq_true z)
      subst this; exact hA
    · exact fun h => ⟨T, h, decide_eq_true rfl⟩
  rw [this]
  by_cases q : T ∈ L
  · rw [if_pos (decide_eq_true q), if_pos q]
  · rw [if_neg (by simpa using q), if_neg q, List.map_append]; rfl
theorem putT_mem {L : List Tb} {T U : Tb} : U ∈ putT L T ↔ U ∈ L ∨ U = T := by
  unfold putT
  by_cases q : T ∈ L
  · rw [if_pos q]
    exact ⟨.inl, fun h => h.elim id fun e => e ▸ q⟩
  · rw [if_neg q, List.mem_append, List.mem_singleton]
theorem putT_len {L : List Tb} {T : Tb} : (putT L T).length ≤ L.length + 1 := by
  unfold putT; split <;> simp
theorem tabs_alike : ∀ bs cs : List (List Int), PySem.W.alikeAll (bs.map rowD) (cs.map rowD) = true
  | [], _ => by cases ‹List (List Int)› <;> simp [PySem.W.alikeAll]
  | _ :: _, [] => by simp [PySem.W.alikeAll]
  | b :: bs, c :: cs => by
    have h1 := PySem.W.alike_ints b c
    have h2 := tabs_alike bs cs
    simp [PySem.W.alikeAll, PySem.W.alike, rowD, h1, h2]
theorem tabs_sortable {L : List Tb} (hl : L.length ≤ 16777216) (ne : ∀ T ∈ L, T ≠ []) : sortable (L.map tabD) = true := by
  unfold sortable
  simp only [Bool.and_eq_true, List.all_eq_true, decide_eq_true_eq]
  refine ⟨fun d hd e he => ?_, fun d hd => ?_, fun d hd => ?_, by rw [List.length_map]; exact hl⟩
  · obtain ⟨a, _, rfl⟩ := List.mem_map.mp hd
    obtain ⟨b, _, rfl⟩ := List.mem_map.mp he
    have := tabs_alike a b
    simp [tabD, PySem.W.alike, this]
  · obtain ⟨a, ha, rfl⟩ := List.mem_map.mp hd
    have := ne a ha
    cases a with
    | nil => exact absurd rfl this
    | cons r a => rfl
  · obtain ⟨a, _, rfl⟩ := List.mem_map.mp hd; exact shaped_of can_tab (by decide)
theorem tabs_of : ∀ {xs : List D}, (∀ d ∈ xs, ∃ T, d = tabD T) → ∃ E : List Tb, xs = E.map tabD
  | [], _ => ⟨[], rfl⟩
  | d :: xs, h => by
    obtain ⟨T, rfl⟩ := h d (by simp)
    obtain ⟨E, rfl⟩ := tabs_of (xs := xs) fun x hx => h x (by simp [hx])
    exact ⟨T :: E, rfl⟩
theorem tab_inj {A B : Tb} (h : tabD A = tabD B) : A = B := nk_eq.mp (congrArg nkD h)
theorem sorted_tabs (L : List Tb) : ∃ E : List Tb, sortD (L.map tabD) = E.map tabD ∧ (∀ T, T ∈ E ↔ T ∈ L) ∧ E.length = L.length := by
  have pf : (sortD (L.map tabD)).Perm (L.map tabD) := List.mergeSort_perm _ _
  obtain ⟨E, hE⟩ := tabs_of (xs := sortD (L.map tabD)) fun d hd => by
    obtain ⟨T, _, rfl⟩ := List.mem_map.mp (pf.mem_iff.mp hd)
    exact ⟨T, rfl⟩
  rw [hE] at pf
  refine ⟨E, hE, fun T => ⟨fun h => ?_, fun h => ?_⟩, by simpa using pf.length_eq⟩
  · obtain ⟨U, hU, e⟩ := List.mem_map.mp (pf.mem_iff.mp (List.mem_map_of_mem h))
    exact tab_inj e ▸ hU
  · obtain ⟨U, hU, e⟩ := List.mem_map.mp (pf.mem_iff.mpr (List.mem_map_of_mem (f := tabD) h))
    exact tab_inj e ▸ hU
/-! ### all -/
def AllH (n : Nat) (E : List Tb) : Prop := ∀ T, T ∈ E ↔ HisN n 4 T
def g3 (m : Nat) (T : Tb) (near d : Nat) : List Tb := (List.range d).map fun d : Nat => T ++ [newRow T near (d : Int) m]
def g2 (m : Nat) (T : Tb) (j : Nat) : List Tb := (List.range j).flatMap fun near => g3 m T near 4
def g1 (m : Nat) (E : List Tb) (i : Nat) : List Tb := (E.take i).flatMap fun T => g2 m T m
theorem g3_succ {m : Nat} {T : Tb} {near d : Nat} : g3 m T near (d + 1) = g3 m T near d ++ [T ++ [newRow T near (d : Int) m]] := by simp [g3, List.range_succ]
theorem g2_succ {m : Nat} {T : Tb} {j : Nat} : g2 m T (j + 1) = g2 m T j ++ g3 m T j 4 := by simp [g2, List.range_succ]
theorem g1_succ {m : Nat} {E : List Tb} {i : Nat} {T : Tb} (h : E[i]? = some T) : g1 m E (i + 1) = g1 m E i ++ g2 m T m := by
  unfold g1; rw [take_snoc h, List.flatMap_append]; simp
theorem all_next {m : Nat} (hm : 0 < m) {E L : List Tb} (h : AllH m E) (hL : ∀ T, T ∈ L ↔ T ∈ g1 m E E.length) : AllH (m + 1) L := fun T => by
  rw [hL]
  unfold g1 g2 g3
  rw [List.take_length]
  simp only [List.mem_flatMap, List.mem_map, List.mem_range]
  constructor
  · rintro ⟨U, hU, near, hn, d, hd, rfl⟩
    exact his_grow ((h U).mp hU) hn (by omega) (by omega)
  · intro hT
    obtain ⟨U, near, d, hU, hn, hd, rfl⟩ := his_cut hT hm
    exact ⟨U, (h U).mpr hU, near, hn, d, hd, rfl⟩
theorem e_all {n : Nat} (hn : 0 < n) (hn2 : n ≤ 4) : ∃ E, AllH n E ∧ E.length ≤ 4096 ∧ m__law_all [.fz (.int n), .fz (.int 3)] = .ok (.fz (.list (E.map tabD))) [.fz (.int n), .fz (.int 3)] := by
  have key : Wp b__law_all [.fz (.int n), .fz (.int 3), .un, .un, .un, .un, .un, .un, .un, .un] fun f ρ => ∃ E, AllH n E ∧ E.length ≤ 4096 ∧ f = .ret (.fz (.list (E.map tabD))) ∧ backS [.fz (.int n), .fz (.int 3)] ρ = some [.fz (.int n), .fz (.int 3)] := by
    unfold b__law_all
    refine wp_set (ofO_ok (oLst_ok (eCons_ok (eTup_ok (eCons_ok (eTup_ok eNil_ok (by simp)) rfl) (by simp)) rfl) (by simp))) (by simp) (wp_seq ?_)
    refine' wp_for (fun k ρ => ∃ E s3 s4 s5 s6 s7 s8 s9, AllH (k + 1) E ∧ E.length ≤ 16 ^ k ∧ ρ = [.fz (.int n), .fz (.int 3), .fz (.list (E.map tabD)), s3, s4, s5, s6, s7, s8, s9])
      (iOpt_ok (eCons_ok rfl (eCons_ok (eVar_ok rfl) rfl)) (rng2_ok (n := n - 1) (a := 1) rfl (by omega) (by omega))) ⟨[[[]]], .un, .un, .un, .un, .un, .un, .un, fun T => by
        rw [List.mem_singleton]; exact ⟨fun e => e ▸ his1, his1_only⟩, by simp, rfl⟩ ?st ?q
    case q =>
      rintro ρ' ⟨E, s3, s4, s5, s6, s7, s8, s9, hE, hl, rfl⟩
      rw [List.length_map, List.length_range] at hE hl
      refine ⟨rfl, wp_ret (eVar_ok rfl) ⟨E, by rwa [show n - 1 + 1 = n by omega] at hE, Nat.le_trans hl (Nat.le_trans (Nat.pow_le_pow_right (by decide) (show n - 1 ≤ 3 by omega)) (by decide)), rfl, rfl⟩⟩
    case st =>
      rintro k d ρ hd ⟨E, s3, s4, s5, s6, s7, s8, s9, hE, hl, rfl⟩
      obtain ⟨hk, rfl⟩ := range_at hd
      have hm : (1 + k : Nat) = k + 1 := by omega
      rw [hm]
      have hm4 : k + 1 ≤ 3 := by omega
      have hl2 : E.length ≤ 256 := Nat.le_trans hl (Nat.le_trans (Nat.pow_le_pow_right (by decide) (show k ≤ 2 by omega)) (by decide))
      generalize hmm : k + 1 = m at hE hm4
      have hm0 : 0 < m := by omega
      refine ⟨_, set_nm (by simp), ?_⟩
      refine wp_setO (d := .dN []) rfl (by simp) (wp_seq ?_)
      refine' wp_for (fun i ρ => ∃ L s5 s6 s7 s8 s9, (∀ T, T ∈ L ↔ T ∈ g1 m E i) ∧ L.length ≤ i * 16 ∧ ρ = [.fz (.int n), .fz (.int 3), .fz (.list (E.map tabD)), .fz (.int (m : Nat)), .own (.dN (L.map tabD)), s5, s6, s7, s8, s9])
        (iSeq_any (eVar_ok rfl) rfl) ⟨[], s5, s6, s7, s8, s9, fun T => by simp [g1], by simp, rfl⟩ ?st2 ?q2
      case q2 =>
        rintro ρ' ⟨L, s5, s6, s7, s8, s9, hL, hll, rfl⟩
        rw [List.length_map] at hL hll
        obtain ⟨E', hE', hmem, hlen⟩ := sorted_tabs L
        have hA := all_next hm0 hE hL
        have ne : ∀ T ∈ L, T ≠ [] := fun T hT e => by
          have := ((hA T).mp hT).len
          rw [e] at this; simp at this
        refine ⟨rfl, wp_ok (sSet_ok (eSortN_ok rfl (tabs_sortable (by omega) ne)) (by simp)) ⟨.inl rfl, E', _, _, _, _, _, _, _, fun T => (hmem T).trans (hA T), ?_, by rw [hE']; rfl⟩⟩
        rw [hlen, ← hmm, Nat.pow_succ]; omega
      case st2 =>
        rintro i d ρ hd ⟨L, s5, s6, s7, s8, s9, hL, hll, rfl⟩
        rw [List.getElem?_map] at hd
        cases hT : E[i]? with
        | none => rw [hT] at hd; cases hd
        | some T =>
          rw [hT] at hd
          cases hd
          have il := (List.getElem?_eq_some_iff.mp hT).1
          have hTh := (hE T).mp (List.mem_of_getElem? hT)
          have Tl := hTh.len
          refine ⟨_, set_nm (by simp), ?_⟩
          refine' wp_for (fun j ρ => ∃ L s6 s7 s8 s9, (∀ U, U ∈ L ↔ U ∈ g1 m E i ++ g2 m T j) ∧ L.length ≤ i * 16 + j * 4 ∧ ρ = [.fz (.int n), .fz (.int 3), .fz (.list (E.map tabD)), .fz (.int (m : Nat)), .own (.dN (L.map tabD)), .fz (tabD T), s6, s7, s8, s9])
            (iOpt_ok (eCons_ok (eVar_ok rfl) rfl) (rng1_ok (n := m) rfl (by omega))) ⟨L, s6, s7, s8, s9, fun U => by rw [hL]; simp [g2], by omega, rfl⟩ ?st3 ?q3
          case q3 =>
            rintro ρ' ⟨L, s6, s7, s8, s9, hL, hll, rfl⟩
            rw [List.length_map, List.length_range] at hL hll
            exact ⟨.inl rfl, L, _, _, _, _, _, fun U => by rw [hL, g1_succ hT], by omega, rfl⟩
          case st3 =>
            rintro j d ρ hd ⟨L, s6, s7, s8, s9, hL, hll, rfl⟩
            obtain ⟨hj, rfl⟩ := range_at hd
            refine ⟨_, set_nm (by simp), ?_⟩
            refine' wp_for (fun t ρ => ∃ L s7 s8 s9, (∀ U, U ∈ L ↔ U ∈ g1 m E i ++ g2 m T j ++ g3 m T j t) ∧ L.length ≤ i * 16 + j * 4 + t ∧ ρ = [.fz (.int n), .fz (.int 3), .fz (.list (E.map tabD)), .fz (.int (m : Nat)), .own (.dN (L.map tabD)), .fz (tabD T), .fz (.int (j : Nat)), s7, s8, s9])
              (iOpt_ok (eCons_ok (eBin_ok (z := .int 4) (eVar_ok rfl) rfl rfl) rfl) (rng1_ok (n := 4) rfl (by decide))) ⟨L, s7, s8, s9, fun U => by rw [hL]; simp [g3], by omega, rfl⟩ ?st4 ?q4
            case q4 =>
              rintro ρ' ⟨L, s7, s8, s9, hL, hll, rfl⟩
              rw [List.length_map, List.length_range] at hL hll
              exact ⟨.inl rfl, L, _, _, _, _, fun U => by rw [hL, g2_succ, List.append_assoc], by omega, rfl⟩
            case st4 =>
              rintro t d ρ hd ⟨L, s7, s8, s9, hL, hll, rfl⟩
              obtain ⟨ht, rfl⟩ := range_at hd
              refine ⟨_, set_nm (by simp), ?_⟩
              refine wp_setO (oLst_ok eNil_ok (by simp)) (by simp) (wp_seq ?_)
              refine' wp_for (fun x ρ => ∃ s9, ρ = [.fz (.int n), .fz (.int 3), .fz (.list (E.map tabD)), .fz (.int (m : Nat)), .own (.dN (L.map tabD)), .fz (tabD T), .fz (.int (j : Nat)), .fz (.int (t : Nat)), .own (.lst ((newRow T j (t : Int) x).map .int)), s9])
                (iOpt_ok (eCons_ok (eVar_ok rfl) rfl) (rng1_ok (n := m) rfl (by omega))) ⟨s9, by simp [newRow]⟩ ?st5 ?q5
              case st5 =>
                rintro x d ρ hd ⟨s9, rfl⟩
                obtain ⟨hx, rfl⟩ := range_at hd
                refine ⟨_, set_nm (by simp), wp_ok (sApp_ok (ρ1 := [.fz (.int n), .fz (.int 3), .fz (.list (E.map tabD)), .fz (.int (m : Nat)), .own (.dN (L.map tabD)), .fz (tabD T), .fz (.int (j : Nat)), .fz (.int (t : Nat)), .own (.lst ((newRow T j (t : Int) x).map .int)), .fz (.int (x : Nat))]) (d := .int (if x = j then (t : Int) else min (t : Int) (dyS T j x))) rfl ?_ rfl (by simp [newRow]; omega)) ⟨.inl rfl, .fz (.int (x : Nat)), ?_⟩⟩
                · by_cases q : x = j
                  · rw [if_pos q]
                    exact eIf_t (asB_ok (eBin_ok (eVar_ok rfl) (eVar_ok rfl) (gEqX_int.trans (by simp [q])))) (eVar_ok rfl)
                  · rw [if_neg q]
                    have ed := e_law_day hTh.shp (i := j) (j := x) (by omega) (by omega) (fun z => q z.symm)
                    exact eIf_f (asB_ok (eBin_ok (eVar_ok rfl) (eVar_ok rfl) (gEqX_int.trans (by simp; omega)))) (eCall_ok (eCons_ok (eVar_ok rfl) (eCons_ok (ofR_ok (eCF_ok (eCons_ok (aFz_ok (eVar_ok rfl)) (eCons_ok (aFz_ok (eVar_ok rfl)) (eCons_ok (aFz_ok (eVar_ok rfl)) rfl))) rfl ed rfl)) rfl)) gMin_int)
                · simp [newRow, List.range_succ]
              case q5 =>
                rintro ρ' ⟨s9, rfl⟩
                rw [List.length_map, List.length_range]
                have ga : gAdd (tabD T) (.tuple [.tuple ((newRow T j (t : Int) m).map .int)]) = some (tabD (T ++ [newRow T j (t : Int) m])) := by
                  refine (gAdd_tup (by simp; omega)).trans ?_
                  unfold tabD; rw [List.map_append]; rfl
                refine ⟨rfl, wp_ok (sSetN_ok rfl rfl (eBin_ok (eVar_ok rfl) (eTup_ok (eCons_ok (eCall_ok (eCons_ok (eVar_own rfl) rfl) gTuple_lst) rfl) (by simp)) ga) rfl (key_tab (by simp)) (by rw [List.length_map]; omega)) ⟨.inl rfl, putT L (T ++ [newRow T j (t : Int) m]), .fz (.int (t : Nat)), .fz (.list ((newRow T j (t : Int) m).map .int)), s9, fun U => ?_, ?_, ?_⟩⟩
                · rw [putT_mem, hL, g3_succ]; simp [or_assoc]
                · have := putT_len (L := L) (T := T ++ [newRow T j (t : Int) m]); omega
                · rw [putN_tab]; rfl
  obtain ⟨f, ρ, e, E, h1, h2, h3, h4⟩ := key
  exact ⟨E, h1, h2, fnP_wp rfl rfl ⟨f, ρ, e, h3, h4⟩⟩
end My

/-! K08h: the law's draws of bounds, trees; what keeps bounds; the least. -/
namespace My
open PySem PySem.Spec L2 DL
def Bd4 (n : Nat) (b : Bd) : Prop := BdOk n b ∧ b.2.2.1 < 4
theorem mod_ne {a r n : Int} (ha : 0 ≤ a) (han : a < n) (hr : 0 ≤ r) (hrn : r < n - 1) : (a + 1 + r) % n ≠ a := by
  by_cases h : a + 1 + r < n
  · rw [Int.emod_eq_of_lt (by omega) h]; omega
  · have e : (a + 1 + r - n + n) % n = (a + 1 + r - n) % n := by simp
    rw [show a + 1 + r - n + n = a + 1 + r by omega] at e
    rw [e, Int.emod_eq_of_lt (by omega) (by omega)]; omega
theorem callF_rf2 {F : M Slot} {i : Nat} {c c' : OC} {a b : D} {r : Slot} {ρ : Rho} (h : ρ[i]? = some (.own c)) (hf : F [.own c, .fz a, .fz b] = .ok r [.own c', .fz a, .fz b]) : callF F [.rf i, .fz a, .fz b] ρ = .ok r (ρ.set i (.own c')) := by
  simp [callF, ndA, argSlots, argSlot, h, hf, backR, isOwn]
theorem callF_rf3 {F : M Slot} {i : Nat} {c c' : OC} {a b d : D} {r : Slot} {ρ : Rho} (h : ρ[i]? = some (.own c)) (hf : F [.own c, .fz a, .fz b, .fz d] = .ok r [.own c', .fz a, .fz b, .fz d]) : callF F [.rf i, .fz a, .fz b, .fz d] ρ = .ok r (ρ.set i (.own c')) := by
  simp [callF, ndA, argSlots, argSlot, h, hf, backR, isOwn]
theorem sParOO_ok {i j : Nat} {mo mp : M OC} {c d : OC} {ρ ρ1 ρ2 : Rho} (h1 : mo ρ = .ok c ρ1) (h2 : mp ρ1 = .ok d ρ2) (hi : i < ρ2.length ∧ j < ρ2.length) : sParOO i j mo mp ρ = .ok .next ((ρ2.set i (.own c)).set j (.own d)) := by
  unfold sParOO; rw [bind_ok h1, bind_ok h2]; exact if_pos hi
theorem e_pair {l : List D} {q n : Nat} (h : SrcQ q l) (hq : q ≤ 100000) (hn : 2 ≤ n) (hn2 : n ≤ 1000) : ∃ l' a b, SrcQ (q + 2) l' ∧ a < n ∧ b < n ∧ a ≠ b ∧ m__law_pair [.own (.lst l), .fz (.int n)] = .ok (.fz (.tuple [.int (a : Nat), .int (b : Nat)])) [.own (.lst l'), .fz (.int n)] := by
  obtain ⟨l1, r1, p1, a1, b1, e1⟩ := e_draw (m := (n : Int)) h (by omega) (by omega) (by omega)
  obtain ⟨l2, r2, p2, a2, b2, e2⟩ := e_draw (m := (n : Int) - 1) p1 (by omega) (by omega) (by omega)
  have ne := mod_ne a1 b1 a2 b2
  have m0 := Int.emod_nonneg (r1 + 1 + r2) (b := (n : Int)) (by omega)
  have m1 := Int.emod_lt_of_pos (r1 + 1 + r2) (b := (n : Int)) (by omega)
  refine ⟨l2, r1.toNat, ((r1 + 1 + r2) % n).toNat, p2, by omega, by omega, by omega, ?_⟩
  rw [show ((r1.toNat : Nat) : Int) = r1 by omega, show ((((r1 + 1 + r2) % n).toNat : Nat) : Int) = (r1 + 1 + r2) % n by omega]
  refine fnP_ok rfl rfl (sSeq_ok (sSet_ok (ofR_ok (eCallF_ok (aSlot_own rfl (eCons_ok (aFz_ok (eVar_ok rfl)) rfl)) (callF_rf1 rfl e1))) (by simp)) (sRet_ok (eTup_ok (eCons_ok (eVar_ok rfl) (eCons_ok (eBin_ok (eBin_ok (eBin_ok (eVar_ok rfl) rfl (z := .int (r1 + 1)) rfl) (ofR_ok (eCallF_ok (aSlot_own rfl (eCons_ok (aFz_ok (eBin_ok (eVar_ok rfl) rfl (z := .int ((n : Int) - 1)) rfl)) rfl)) (callF_rf1 rfl e2))) (z := .int (r1 + 1 + r2)) rfl) (eVar_ok rfl) (gMod_ok (by omega))) rfl)) (by simp)))) rfl
/-! ### bounds drawn -/
theorem low_pick {x y r : Int} (h0 : 0 ≤ r) (h1 : r < 2) : ∃ v : Int, gIx (.list [.int x, .int y]) (.int r) = some (.int v) ∧ (v = x ∨ v = y) := by
  rcases (show r = 0 ∨ r = 1 by omega) with z | z <;> subst z
  · exact ⟨x, rfl, .inl rfl⟩
  · exact ⟨y, rfl, .inr rfl⟩
theorem low_pick3 {x y w r : Int} (h0 : 0 ≤ r) (h1 : r < 3) : ∃ v : Int, gIx (.list [.int x, .int y, .int w]) (.int r) = some (.int v) ∧ (v = x ∨ v = y ∨ v = w) := by
  rcases (show r = 0 ∨ r = 1 ∨ r = 2 by omega) with z | z | z <;> subst z
  · exact ⟨x, rfl, .inl rfl⟩
  · exact ⟨y, rfl, .inr (.inl rfl)⟩
  · exact ⟨w, rfl, .inr (.inr rfl)⟩
theorem hi_pick {x y r : Int} (h0 : 0 ≤ r) (h1 : r < 3) : ∃ v : Option Int, gIx (.list [.none, .int x, .int y]) (.int r) = some (hiD v) ∧ ∀ h, v = some h → h = x ∨ h = y := by
  rcases (show r = 0 ∨ r = 1 ∨ r = 2 by omega) with z | z | z <;> subst z
  · exact ⟨none, rfl, fun h z => by cases z⟩
  · exact ⟨some x, rfl, fun h z => by cases z; exact .inl rfl⟩
  · exact ⟨some y, rfl, fun h z => by cases z; exact .inr rfl⟩
theorem e_wild {l : List D} {q n sz : Nat} (h : SrcQ q l) (hq : q ≤ 50000) (hn : 2 ≤ n) (hn2 : n ≤ 1000) (hs : sz ≤ 6) : ∃ l' bs, SrcQ (q + 36) l' ∧ bs.length ≤ 6 ∧ (∀ b ∈ bs, Bd4 n b) ∧ m__law_wild [.own (.lst l), .fz (.int n), .fz (.int 3), .fz (.int sz)] = .ok (.fz (tdD bs)) [.own (.lst l'), .fz (.int n), .fz (.int 3), .fz (.int sz)] := by
  have key : Wp b__law_wild [.own (.lst l), .fz (.int n), .fz (.int 3), .fz (.int sz), .un, .un, .un, .un, .un, .un] fun f ρ => ∃ l' bs, SrcQ (q + 36) l' ∧ bs.length ≤ 6 ∧ (∀ b ∈ bs, Bd4 n b) ∧ f = .ret (.fz (tdD bs)) ∧ backS [.own (.lst l), .fz (.int n), .fz (.int 3), .fz (.int sz)] ρ = some [.own (.lst l'), .fz (.int n), .fz (.int 3), .fz (.int sz)] := by
    unfold b__law_wild
    refine wp_setO (oLst_ok eNil_ok (by simp)) (by simp) (wp_seq ?_)
    refine' wp_for (fun k ρ => ∃ (l' : List D) (bs : List Bd) (s5 s6 s7 s8 s9 : Slot), SrcQ (q + 6 * k) l' ∧ bs.length = k ∧ (∀ b ∈ bs, Bd4 n b) ∧ ρ = [.own (.lst l'), .fz (.int n), .fz (.int 3), .fz (.int sz), .own (.lst (bs.map bdD)), s5, s6, s7, s8, s9])
      (iOpt_ok (eCons_ok (eVar_ok rfl) rfl) (rng1_ok (n := sz) rfl (by omega))) ⟨l, [], .un, .un, .un, .un, .un, h, rfl, by simp, rfl⟩ ?st ?q
    case q =>
      rintro ρ' ⟨l', bs, s5, s6, s7, s8, s9, pl, hb, ok, rfl⟩
      rw [List.length_map, List.length_range] at pl hb
      exact ⟨rfl, wp_ret (eCall_ok (eCons_ok (eVar_own rfl) rfl) gTuple_lst) ⟨l', bs, pl.mono (by omega), by omega, ok, rfl, rfl⟩⟩
    case st =>
      rintro k d ρ hd ⟨l', bs, s5, s6, s7, s8, s9, pl, hb, ok, rfl⟩
      obtain ⟨hk, rfl⟩ := range_at hd
      obtain ⟨l1, a, b, p1, ha, hbn, ab, e1⟩ := e_pair (n := n) pl (by omega) hn hn2
      obtain ⟨l2, r2, p2, a2, b2, e2⟩ := e_draw (m := 4) p1 (by omega) (by decide) (by decide)
      obtain ⟨l3, r3, p3, a3, b3, e3⟩ := e_draw (m := 2) p2 (by omega) (by decide) (by decide)
      obtain ⟨low, gl, hl⟩ := low_pick (x := 0) (y := r2) a3 b3
      have hl0 : 0 ≤ low ∧ low < 4 := by rcases hl with z | z <;> omega
      obtain ⟨l4, r4, p4, a4, b4, e4⟩ := e_draw (m := 4 - low) p3 (by omega) (by omega) (by omega)
      obtain ⟨l5, r5, p5, a5, b5, e5⟩ := e_draw (m := 3) p4 (by omega) (by decide) (by decide)
      obtain ⟨hi, gh, hh⟩ := hi_pick (x := low) (y := low + r4) a5 b5
      refine ⟨_, set_nm (by simp), ?_⟩
      refine wp_seq1 (sAsgG_ok (ofR_ok (eCallF_ok (aSlot_own rfl (eCons_ok (aFz_ok (eVar_ok rfl)) rfl)) (callF_rf1 rfl e1))) (set_tp2 (by simp) (by simp))) ?_
      refine wp_set (eBin_ok (ofO_ok (oLst_ok (eCons_ok rfl (eCons_ok (ofR_ok (eCallF_ok (aSlot_own rfl (eCons_ok (aFz_ok (eBin_ok (z := .int 4) (eVar_ok rfl) rfl rfl)) rfl)) (callF_rf1 rfl e2))) rfl)) (by simp))) (ofR_ok (eCallF_ok (aSlot_own rfl (eCons_ok (aFz_ok rfl) rfl)) (callF_rf1 rfl e3))) gl) (by simp) ?_
      refine wp_set (eBin_ok (ofO_ok (oLst_ok (eCons_ok rfl (eCons_ok (eVar_ok rfl) (eCons_ok (eBin_ok (z := .int (low + r4)) (eVar_ok rfl) (ofR_ok (eCallF_ok (aSlot_own rfl (eCons_ok (aFz_ok (eBin_ok (z := .int (4 - low)) (eBin_ok (z := .int 4) (eVar_ok rfl) rfl rfl) (eVar_ok rfl) rfl)) rfl)) (callF_rf1 rfl e4))) rfl) rfl))) (by simp))) (ofR_ok (eCallF_ok (aSlot_own rfl (eCons_ok (aFz_ok rfl) rfl)) (callF_rf1 rfl e5))) gh) (by simp) ?_
      refine wp_ok (sApp_ok rfl (eTup_ok (eCons_ok (eVar_ok rfl) (eCons_ok (eVar_ok rfl) (eCons_ok (eVar_ok rfl) (eCons_ok (eVar_ok rfl) rfl)))) (by simp)) rfl (by simp; omega)) ⟨.inl rfl, l5, bs ++ [(a, b, low, hi)], .fz (.int (k : Nat)), .fz (.int (a : Nat)), .fz (.int (b : Nat)), .fz (.int low), .fz (hiD hi), p5.mono (by omega), by simp [hb], fun x hx => ?_, by rw [List.map_append]; rfl⟩
      rcases List.mem_append.mp hx with z | z
      · exact ok x z
      · rw [List.mem_singleton] at z; subst z
        exact ⟨⟨ha, hbn, ab, hl0.1, show low < 9 by omega, fun x hx => by rcases hh x hx with z | z <;> (show low ≤ x; omega)⟩, hl0.2⟩
  obtain ⟨f, ρ, e, l', bs, h1, h2, h3, h4, h5⟩ := key
  exact ⟨l', bs, h1, h2, h3, fnP_wp rfl rfl ⟨f, ρ, e, h4, h5⟩⟩
theorem e_true {l : List D} {q n sz : Nat} {T : Tb} (hT : HisN n 4 T) (h : SrcQ q l) (hq : q ≤ 50000) (hn : 2 ≤ n) (hn2 : n ≤ 1000) (hs : sz ≤ 6) : ∃ l' bs, SrcQ (q + 36) l' ∧ bs.length ≤ 6 ∧ (∀ b ∈ bs, Bd4 n b) ∧ m__law_true [.own (.lst l), .fz (tabD T), .fz (.int 0), .fz (.int sz)] = .ok (.fz (tdD bs)) [.own (.lst l'), .fz (tabD T), .fz (.int 0), .fz (.int sz)] := by
  have lT : gLen [tabD T] = some (.int (n : Nat)) := by
    refine gLen_tup.trans ?_
    rw [List.length_map, hT.len]
  have key : Wp b__law_true [.own (.lst l), .fz (tabD T), .fz (.int 0), .fz (.int sz), .un, .un, .un, .un, .un, .un, .un] fun f ρ => ∃ l' bs, SrcQ (q + 36) l' ∧ bs.length ≤ 6 ∧ (∀ b ∈ bs, Bd4 n b) ∧ f = .ret (.fz (tdD bs)) ∧ backS [.own (.lst l), .fz (tabD T), .fz (.int 0), .fz (.int sz)] ρ = some [.own (.lst l'), .fz (tabD T), .fz (.int 0), .fz (.int sz)] := by
    unfold b__law_true
    refine wp_setO (oLst_ok eNil_ok (by simp)) (by simp) (wp_seq ?_)
    refine' wp_for (fun k ρ => ∃ (l' : List D) (bs : List Bd) (s5 s6 s7 s8 s9 s10 : Slot), SrcQ (q + 6 * k) l' ∧ bs.length = k ∧ (∀ b ∈ bs, Bd4 n b) ∧ ρ = [.own (.lst l'), .fz (tabD T), .fz (.int 0), .fz (.int sz), .own (.lst (bs.map bdD)), s5, s6, s7, s8, s9, s10])
      (iOpt_ok (eCons_ok (eVar_ok rfl) rfl) (rng1_ok (n := sz) rfl (by omega))) ⟨l, [], .un, .un, .un, .un, .un, .un, h, rfl, by simp, rfl⟩ ?st ?q
    case q =>
      rintro ρ' ⟨l', bs, s5, s6, s7, s8, s9, s10, pl, hb, ok, rfl⟩
      rw [List.length_map, List.length_range] at pl hb
      exact ⟨rfl, wp_ret (eCall_ok (eCons_ok (eVar_own rfl) rfl) gTuple_lst) ⟨l', bs, pl.mono (by omega), by omega, ok, rfl, rfl⟩⟩
    case st =>
      rintro k d ρ hd ⟨l', bs, s5, s6, s7, s8, s9, s10, pl, hb, ok, rfl⟩
      obtain ⟨hk, rfl⟩ := range_at hd
      obtain ⟨l1, a, b, p1, ha, hbn, ab, e1⟩ := e_pair (n := n) pl (by omega) hn hn2
      have dbd := dyS_bd hT ha hbn ab
      have dg : gIx (rowD (T.getD (max a b) [])) (.int (min a b : Nat)) = some (.int (dyS T a b)) := day_at hT.shp (by omega) (by rw [hT.len]; omega)
      have tg : gIx (tabD T) (.int (max a b : Nat)) = some (rowD (T.getD (max a b) [])) := tabD_at (by rw [hT.len]; omega)
      generalize dyS T a b = dd at dbd dg
      obtain ⟨l2, r2, p2, a2, b2, e2⟩ := e_draw (m := dd + 1) p1 (by omega) (by omega) (by omega)
      obtain ⟨l3, r3, p3, a3, b3, e3⟩ := e_draw (m := 3) p2 (by omega) (by decide) (by decide)
      obtain ⟨low, gl, hl⟩ := low_pick3 (x := 0) (y := dd) (w := r2) a3 b3
      have hl0 : 0 ≤ low ∧ low ≤ dd := by rcases hl with z | z | z <;> omega
      obtain ⟨l4, r4, p4, a4, b4, e4⟩ := e_draw (m := 2) p3 (by omega) (by decide) (by decide)
      obtain ⟨l5, r5, p5, a5, b5, e5⟩ := e_draw (m := 3) p4 (by omega) (by decide) (by decide)
      obtain ⟨hi, gh, hh⟩ := hi_pick (x := dd) (y := dd + r4) a5 b5
      refine ⟨_, set_nm (by simp), ?_⟩
      refine wp_seq1 (sAsgG_ok (ofR_ok (eCallF_ok (aSlot_own rfl (eCons_ok (aFz_ok (eCall_ok (eCons_ok (eVar_ok rfl) rfl) lT)) rfl)) (callF_rf1 rfl e1))) (set_tp2 (by simp) (by simp))) ?_
      refine wp_set (eBin_ok (eBin_ok (eVar_ok rfl) (eCall_ok (eCons_ok (eVar_ok rfl) (eCons_ok (eVar_ok rfl) rfl)) gMax_nat) tg) (eCall_ok (eCons_ok (eVar_ok rfl) (eCons_ok (eVar_ok rfl) rfl)) gMin_nat) dg) (by simp) ?_
      refine wp_set (eBin_ok (ofO_ok (oLst_ok (eCons_ok rfl (eCons_ok (eVar_ok rfl) (eCons_ok (ofR_ok (eCallF_ok (aSlot_own rfl (eCons_ok (aFz_ok (eBin_ok (z := .int (dd + 1)) (eVar_ok rfl) rfl rfl)) rfl)) (callF_rf1 rfl e2))) rfl))) (by simp))) (ofR_ok (eCallF_ok (aSlot_own rfl (eCons_ok (aFz_ok rfl) rfl)) (callF_rf1 rfl e3))) gl) (by simp) ?_
      refine wp_set (eBin_ok (ofO_ok (oLst_ok (eCons_ok rfl (eCons_ok (eVar_ok rfl) (eCons_ok (eBin_ok (z := .int (dd + r4)) (eVar_ok rfl) (ofR_ok (eCallF_ok (aSlot_own rfl (eCons_ok (aFz_ok (eBin_ok (z := .int 2) (eVar_ok rfl) rfl rfl)) rfl)) (callF_rf1 rfl e4))) rfl) rfl))) (by simp))) (ofR_ok (eCallF_ok (aSlot_own rfl (eCons_ok (aFz_ok rfl) rfl)) (callF_rf1 rfl e5))) gh) (by simp) ?_
      refine wp_ok (sApp_ok rfl (eTup_ok (eCons_ok (eVar_ok rfl) (eCons_ok (eVar_ok rfl) (eCons_ok (eVar_ok rfl) (eCons_ok (eVar_ok rfl) rfl)))) (by simp)) rfl (by simp; omega)) ⟨.inl rfl, l5, bs ++ [(a, b, low, hi)], .fz (.int (k : Nat)), .fz (.int (a : Nat)), .fz (.int (b : Nat)), .fz (.int dd), .fz (.int low), .fz (hiD hi), p5.mono (by omega), by simp [hb], fun x hx => ?_, by rw [List.map_append]; rfl⟩
      rcases List.mem_append.mp hx with z | z
      · exact ok x z
      · rw [List.mem_singleton] at z; subst z
        exact ⟨⟨ha, hbn, ab, hl0.1, show low < 9 by omega, fun x hx => by rcases hh x hx with z | z <;> (show low ≤ x; omega)⟩, show low < 4 by omega⟩
  obtain ⟨f, ρ, e, l', bs, h1, h2, h3, h4, h5⟩ := key
  exact ⟨l', bs, h1, h2, h3, fnP_wp rfl rfl ⟨f, ρ, e, h4, h5⟩⟩
/-! ### a tree -/
theorem seen_at {sn : List Int} {r : Int} (hs : ∀ x ∈ sn, 0 ≤ x ∧ x < 4) (h0 : 0 ≤ r) (h1 : r < sn.length) : ∃ v : Int, gIx (.list (sn.map .int)) (.int r) = some (.int v) ∧ 0 ≤ v ∧ v < 4 := by
  obtain ⟨k, rfl⟩ : ∃ k : Nat, r = k := ⟨r.toNat, by omega⟩
  have hk : k < sn.length := by omega
  exact ⟨sn[k], gIx_at (n := k) rfl (by simp [hk]), hs _ (List.getElem_mem hk)⟩
theorem e_tree {l : List D} {q n : Nat} (h : SrcQ q l) (hq : q ≤ 50000) (hn : 1 ≤ n) (hn2 : n ≤ 4) : ∃ l' T, SrcQ (q + 13) l' ∧ HisN n 4 T ∧ m__law_tree [.own (.lst l), .fz (.int n), .fz (.int 3)] = .ok (.fz (tabD T)) [.own (.lst l'), .fz (.int n), .fz (.int 3)] := by
  obtain ⟨l0, r0, p0, a0, b0, e0⟩ := e_draw (m := 4) h (by omega) (by decide) (by decide)
  have key : Wp b__law_tree [.own (.lst l), .fz (.int n), .fz (.int 3), .un, .un, .un, .un, .un, .un, .un] fun f ρ => ∃ l' T, SrcQ (q + 13) l' ∧ HisN n 4 T ∧ f = .ret (.fz (tabD T)) ∧ backS [.own (.lst l), .fz (.int n), .fz (.int 3)] ρ = some [.own (.lst l'), .fz (.int n), .fz (.int 3)] := by
    unfold b__law_tree
    refine wp_seq1 (sParOO_ok (oLst_ok (eCons_ok (eTup_ok eNil_ok (by simp)) rfl) (by simp)) (oLst_ok (eCons_ok rfl (eCons_ok (eVar_ok rfl) (eCons_ok (ofR_ok (eCallF_ok (aSlot_own rfl (eCons_ok (aFz_ok (eBin_ok (z := .int 4) (eVar_ok rfl) rfl rfl)) rfl)) (callF_rf1 rfl e0))) rfl))) (by simp)) ⟨by simp, by simp⟩) (wp_seq ?_)
    refine' wp_for (fun k ρ => ∃ (l' : List D) (T : Tb) (sn : List Int) (s5 s6 s7 s8 s9 : Slot), SrcQ (q + 1 + 4 * k) l' ∧ HisN (k + 1) 4 T ∧ sn.length = 3 + k ∧ (∀ x ∈ sn, 0 ≤ x ∧ x < 4) ∧ ρ = [.own (.lst l'), .fz (.int n), .fz (.int 3), .own (.lst (T.map rowD)), .own (.lst (sn.map .int)), s5, s6, s7, s8, s9])
      (iOpt_ok (eCons_ok rfl (eCons_ok (eVar_ok rfl) rfl)) (rng2_ok (n := n - 1) (a := 1) rfl (by omega) (by omega))) ⟨l0, [[]], [0, 3, r0], .un, .un, .un, .un, .un, p0, his1, rfl, by simp; omega, rfl⟩ ?st ?q
    case q =>
      rintro ρ' ⟨l', T, sn, s5, s6, s7, s8, s9, pl, hT, _, _, rfl⟩
      rw [List.length_map, List.length_range] at pl hT
      exact ⟨rfl, wp_ret (eCall_ok (eCons_ok (eVar_own rfl) rfl) gTuple_lst) ⟨l', T, pl.mono (by omega), by rwa [show n - 1 + 1 = n by omega] at hT, rfl, rfl⟩⟩
    case st =>
      rintro k d ρ hd ⟨l', T, sn, s5, s6, s7, s8, s9, pl, hT, hsl, hsn, rfl⟩
      obtain ⟨hk, rfl⟩ := range_at hd
      rw [show (1 + k : Nat) = k + 1 by omega]
      generalize hm : k + 1 = m at hT
      have Tl := hT.len
      obtain ⟨l1, r1, p1, a1, b1, e1⟩ := e_draw (m := (m : Int)) pl (by omega) (by omega) (by omega)
      obtain ⟨l2, r2, p2, a2, b2, e2⟩ := e_draw (m := 4) p1 (by omega) (by decide) (by decide)
      obtain ⟨l3, r3, p3, a3, b3, e3⟩ := e_draw (m := ((sn.map PyData.int).length : Nat)) p2 (by omega) (by simp; omega) (by simp; omega)
      obtain ⟨l4, r4, p4, a4, b4, e4⟩ := e_draw (m := 2) p3 (by omega) (by decide) (by decide)
      obtain ⟨v, gv, v0, v4⟩ := seen_at hsn a3 (by simpa using b3)
      obtain ⟨w, gw, hw⟩ := low_pick (x := r2) (y := v) a4 b4
      have w0 : 0 ≤ w ∧ w < 4 := by rcases hw with z | z <;> omega
      obtain ⟨j, rfl⟩ : ∃ j : Nat, r1 = j := ⟨r1.toNat, by omega⟩
      have hj : j < m := by omega
      refine ⟨_, set_nm (by simp), ?_⟩
      refine wp_seq1 (sPar_ok (eCons_ok (ofR_ok (eCallF_ok (aSlot_own rfl (eCons_ok (aFz_ok (eVar_ok rfl)) rfl)) (callF_rf1 rfl e1))) (eCons_ok (ofR_ok (eCallF_ok (aSlot_own rfl (eCons_ok (aFz_ok (eBin_ok (z := .int 4) (eVar_ok rfl) rfl rfl)) rfl)) (callF_rf1 rfl e2))) rfl)) ⟨by simp, by simp⟩) ?_
      refine wp_set (eBin_ok (ofO_ok (oLst_ok (eCons_ok (eVar_ok rfl) (eCons_ok (eIxP_own rfl (ofR_ok (eCallF_ok (aSlot_own rfl (eCons_ok (aFz_ok (eLenP_own rfl)) rfl)) (callF_rf1 rfl e3))) rfl gv) rfl)) (by simp))) (ofR_ok (eCallF_ok (aSlot_own rfl (eCons_ok (aFz_ok rfl) rfl)) (callF_rf1 rfl e4))) gw) (by simp) ?_
      refine wp_seq1 (sApp_ok rfl (eVar_ok rfl) rfl (by simp; omega)) ?_
      refine wp_setO (oLst_ok eNil_ok (by simp)) (by simp) (wp_seq ?_)
      refine' wp_for (fun x ρ => ∃ s9, ρ = [.own (.lst l4), .fz (.int n), .fz (.int 3), .own (.lst (T.map rowD)), .own (.lst (sn.map .int ++ [.int w])), .fz (.int (m : Nat)), .fz (.int (j : Nat)), .fz (.int w), .own (.lst ((newRow T j w x).map .int)), s9])
        (iOpt_ok (eCons_ok (eVar_ok rfl) rfl) (rng1_ok (n := m) rfl (by omega))) ⟨s9, by simp [newRow]⟩ ?st5 ?q5
      case st5 =>
        rintro x d ρ hd ⟨s9, rfl⟩
        obtain ⟨hx, rfl⟩ := range_at hd
        refine ⟨_, set_nm (by simp), wp_ok (sApp_ok (ρ1 := [.own (.lst l4), .fz (.int n), .fz (.int 3), .own (.lst (T.map rowD)), .own (.lst (sn.map .int ++ [.int w])), .fz (.int (m : Nat)), .fz (.int (j : Nat)), .fz (.int w), .own (.lst ((newRow T j w x).map .int)), .fz (.int (x : Nat))]) (d := .int (if x = j then w else min w (dyS T j x))) rfl ?_ rfl (by simp [newRow]; omega)) ⟨.inl rfl, .fz (.int (x : Nat)), ?_⟩⟩
        · by_cases q : x = j
          · rw [if_pos q]
            exact eIf_t (asB_ok (eBin_ok (eVar_ok rfl) (eVar_ok rfl) (gEqX_int.trans (by simp [q])))) (eVar_ok rfl)
          · rw [if_neg q]
            have dg : gIx (rowD (T.getD (max j x) [])) (.int (min j x : Nat)) = some (.int (dyS T j x)) := day_at hT.shp (by omega) (by omega)
            have tg : gIx (.list (T.map rowD)) (.int (max j x : Nat)) = some (rowD (T.getD (max j x) [])) := tabD_at (T := T) (by omega)
            exact eIf_f (asB_ok (eBin_ok (eVar_ok rfl) (eVar_ok rfl) (gEqX_int.trans (by simp; omega)))) (eCall_ok (eCons_ok (eVar_ok rfl) (eCons_ok (eBin_ok (eIxP_own rfl (eCall_ok (eCons_ok (eVar_ok rfl) (eCons_ok (eVar_ok rfl) rfl)) gMax_nat) rfl tg) (eCall_ok (eCons_ok (eVar_ok rfl) (eCons_ok (eVar_ok rfl) rfl)) gMin_nat) dg) rfl)) gMin_int)
        · simp [newRow, List.range_succ]
      case q5 =>
        rintro ρ' ⟨s9, rfl⟩
        rw [List.length_map, List.length_range]
        have hg := his_grow hT hj w0.1 w0.2
        refine ⟨rfl, wp_ok (sApp_ok rfl (eCall_ok (eCons_ok (eVar_own rfl) rfl) gTuple_lst) rfl (by simp; omega)) ⟨.inl rfl, l4, T ++ [newRow T j w m], sn ++ [w], .fz (.int (m : Nat)), .fz (.int (j : Nat)), .fz (.int w), .fz (.list ((newRow T j w m).map .int)), s9, p4.mono (by omega), hg, by simp; omega, fun y hy => ?_, ?_⟩⟩
        · rcases List.mem_append.mp hy with z | z
          · exact hsn y z
          · rw [List.mem_singleton] at z; subst z; exact w0
        · rw [List.map_append, List.map_append]; rfl
  obtain ⟨f, ρ, e, l', T, h1, h2, h3, h4⟩ := key
  exact ⟨l', T, h1, h2, fnP_wp rfl rfl ⟨f, ρ, e, h3, h4⟩⟩
/-! ### what keeps them, the least of it -/
theorem none_left {T : Tb} {bs : List Bd} : ((bs.filter fun b => !hold T b).map bdD).isEmpty = keep T bs := by
  rw [List.isEmpty_map, Bool.eq_iff_iff, List.isEmpty_iff, List.filter_eq_nil_iff]
  unfold keep
  rw [List.all_eq_true]
  constructor
  · intro h b hb
    have := h b hb
    simpa using this
  · intro h b hb
    rw [h b hb]; simp
theorem e_keeping {n : Nat} {E : List Tb} {bs : List Bd} (hE : ∀ T ∈ E, HisN n 4 T) (hl : E.length ≤ 4096) (ok : ∀ b ∈ bs, BdOk n b) : m__law_keeping [.fz (.list (E.map tabD)), .fz (tdD bs)] = .ok (.own (.lst ((E.filter fun T => keep T bs).map tabD))) [.fz (.list (E.map tabD)), .fz (tdD bs)] := by
  unfold m__law_keeping b__law_keeping
  refine fnP_wp rfl rfl (wp_setO (oLst_ok eNil_ok (by simp)) (by simp) (wp_seq ?_))
  refine' wp_for (ds := E.map tabD) (fun k ρ => ∃ s3, ρ = [.fz (.list (E.map tabD)), .fz (tdD bs), .own (.lst (((E.take k).filter fun T => keep T bs).map tabD)), s3, .un])
    (iSeq_any (eVar_ok rfl) rfl) ⟨.un, by simp⟩ ?st ?q
  case q =>
    rintro ρ' ⟨s3, rfl⟩
    rw [List.length_map, List.take_length]
    exact ⟨rfl, wp_retV rfl ⟨rfl, rfl⟩⟩
  case st =>
    rintro k d ρ hd ⟨s3, rfl⟩
    rw [List.getElem?_map] at hd
    cases hT : E[k]? with
    | none => rw [hT] at hd; cases hd
    | some T =>
      rw [hT] at hd
      cases hd
      have hh := hE T (List.mem_of_getElem? hT)
      have fl := List.length_filter_le (fun T => keep T bs) (E.take k)
      rw [List.length_take] at fl
      refine ⟨_, set_nm (by simp), ?_⟩
      refine wp_if (k := keep T bs) (asB_ok (eBin_ok (ofO_ok (oComp_map (ρ0 := [.fz (.list (E.map tabD)), .fz (tdD bs), .own (.lst (((E.take k).filter fun T => keep T bs).map tabD)), .fz (tabD T), .un]) (φ := bdD) (ds := bs) (fun b => !hold T b) bdD (iSeq_any (eVar_ok rfl) rfl) rfl (fun b hb => ⟨_, _, _, set_nm (by simp [wipeR]), bNot_ok (asB_ok (ofR_ok (eCF_ok (eCons_ok (aFz_ok (eVar_ok rfl)) (eCons_ok (aFz_ok (eVar_ok rfl)) rfl)) rfl (e_law_holds hh.shp hh.len (ok b hb)) rfl))), fun _ => eVar_ok rfl, by split <;> rfl⟩) rfl)) (ofO_ok (oLst_ok eNil_ok (by simp))) (gEqX_lst0.trans (by rw [none_left])))) (fun hk => ?_) (fun hk => ?_)
      · refine wp_ok (sApp_ok rfl (eVar_ok rfl) rfl (by rw [List.length_map]; omega)) ⟨.inl rfl, .fz (tabD T), ?_⟩
        rw [take_snoc hT, List.filter_append]
        simp [hk]
      · refine wp_next ⟨.inl rfl, .fz (tabD T), ?_⟩
        rw [take_snoc hT, List.filter_append]
        simp [hk]
theorem gMin_mn {l : List Int} (h : l ≠ []) : gMin [.list (l.map .int)] = some (.int (mn l)) := by
  cases l with
  | nil => exact absurd rfl h
  | cons x r => exact gMinL (x := x) (r := r) rfl
theorem e_least {n : Nat} {fs : List Tb} {C : Tb} (hfs : ∀ T ∈ fs, HisN n 4 T) (hC : C ∈ fs) (le : ∀ T ∈ fs, leB C T = true) (hn : n ≤ 1000) (hl : fs.length ≤ 4096) : m__law_least [.fz (.list (fs.map tabD))] = .ok (.fz (tabD C)) [.fz (.list (fs.map tabD))] := by
  have hCh := hfs C hC
  obtain ⟨T0, hT0⟩ : ∃ T0, fs[0]? = some T0 := by
    cases fs with
    | nil => cases hC
    | cons a b => exact ⟨a, rfl⟩
  have h0 := hfs T0 (List.mem_of_getElem? hT0)
  have g0 : gIx (.list (fs.map tabD)) (.int 0) = some (tabD T0) := gIx_at (n := 0) rfl (map_at hT0)
  unfold m__law_least b__law_least
  refine fnP_wp rfl rfl (wp_setO (oLst_ok eNil_ok (by simp)) (by simp) (wp_seq ?_))
  refine' wp_for (fun k ρ => ∃ s2, ρ = [.fz (.list (fs.map tabD)), .own (.lst ((tabOf k (dy C)).map rowD)), s2, .un, .un])
    (iOpt_ok (eCons_ok (eCall_ok (eCons_ok (eBin_ok (eVar_ok rfl) rfl g0) rfl) gLen_tup) rfl) (rng1_ok (n := n) (by rw [List.length_map, h0.len]) (by omega))) ⟨.un, rfl⟩ ?st ?q
  case q =>
    rintro ρ' ⟨s2, rfl⟩
    rw [List.length_map, List.length_range]
    have : tabOf n (dy C) = C := by have := tab_eq hCh.shp; rw [hCh.len] at this; exact this.symm
    rw [this]
    exact ⟨rfl, wp_ret (eCall_ok (eCons_ok (eVar_own rfl) rfl) gTuple_lst) ⟨rfl, rfl⟩⟩
  case st =>
    rintro i d ρ hd ⟨s2, rfl⟩
    obtain ⟨hi, rfl⟩ := range_at hd
    refine ⟨_, set_nm (by simp), wp_ok (sApp_ok rfl (eCall_ok (eCons_ok (ofO_ok (oComp_all (ρ0 := [.fz (.list (fs.map tabD)), .own (.lst ((tabOf i (dy C)).map rowD)), .fz (.int (i : Nat)), .un, .un]) (φ := fun j : Nat => PyData.int (j : Nat)) (ds := List.range i) (fun j => .int (dy C i j)) (iOpt_ok (eCons_ok (eVar_ok rfl) rfl) (rng1_ok (n := i) rfl (by omega))) rfl (fun j hj => ?_) rfl)) rfl) gTuple_lst) rfl (by simp [tabOf]; omega)) ⟨.inl rfl, .fz (.int (i : Nat)), ?_⟩⟩
    · have hj := List.mem_range.mp hj
      have em : mn (fs.map fun T => dy T i j) = dy C i j := mn_is (List.mem_map.mpr ⟨C, hC, rfl⟩) fun y hy => by
        obtain ⟨T, hT, rfl⟩ := List.mem_map.mp hy
        exact leB_at (le T hT) hj (by rw [hCh.len]; exact hi)
      have gm := gMin_mn (l := fs.map fun T => dy T i j) (by intro z; rw [List.map_eq_nil_iff] at z; rw [z] at hC; cases hC)
      rw [em, List.map_map] at gm
      refine ⟨_, _, set_nm (by simp [wipeR]), eCall_ok (eCons_ok (ofO_ok (oComp_all (ρ0 := [.fz (.list (fs.map tabD)), .own (.lst ((tabOf i (dy C)).map rowD)), .fz (.int (i : Nat)), .fz (.int (j : Nat)), .un]) (φ := tabD) (ds := fs) (fun T => .int (dy T i j)) (iSeq_any (eVar_ok rfl) rfl) rfl (fun T hT => ⟨_, _, set_nm (by simp [wipeR]), eBin_ok (eBin_ok (eVar_ok rfl) (eVar_ok rfl) (tabD_at (by rw [(hfs T hT).len]; exact hi))) (eVar_ok rfl) (day_at (hfs T hT).shp hj (by rw [(hfs T hT).len]; exact hi)), rfl⟩) rfl)) rfl) gm, rfl⟩
    · rw [tabOf_succ, List.map_append]
      simp [rowD, Function.comp_def]
end My

/-! K08i: one round of the law. -/
namespace My
open PySem PySem.Spec L2 DL
theorem gMul_two {x : D} : gMul (.list [x]) (.int 2) = some (.list [x, x]) := by
  show (if -(2 ^ 63) ≤ (2 : Int) ∧ (2 : Int) < 2 ^ 63 ∧ [x].length * (2 : Int).toNat ≤ 16777216 then some (PyData.list (List.replicate (2 : Int).toNat [x]).flatten) else none) = _
  rw [if_pos ⟨by decide, by decide, by simp⟩]; rfl
theorem gNeX_same (b : Bool) : gNeX (.bool b) (.bool b) = some (.bool false) := by cases b <;> rfl
theorem same_bools (b : Bool) : m__law_same [.fz (.list [.bool b, .bool b]), .fz (.list [.bool b, .bool b])] = .ok (.fz (.bool true)) [.fz (.list [.bool b, .bool b]), .fz (.list [.bool b, .bool b])] :=
  s_seq (.inr rfl) (by simp) fun x hx => by
    have : x = .bool b := by simpa using hx
    subst this; exact s_bool 4 b
theorem gIn_tab {T : Tb} {E : List Tb} : gIn (tabD T) (.list (E.map tabD)) = some (.bool (decide (T ∈ E))) := by
  have h : memD (tabD T) (.list (E.map tabD)) = some (decide (T ∈ E)) := by
    have e : inD (tabD T) (E.map tabD) = decide (T ∈ E) := by
      unfold inD
      rw [List.any_map]
      by_cases q : T ∈ E
      · rw [decide_eq_true q, List.any_eq_true]
        exact ⟨T, q, by rw [Function.comp_apply, eqv_tabs]; simp⟩
      · rw [decide_eq_false q, List.any_eq_false]
        intro U hU
        rw [Function.comp_apply, eqv_tabs]
        simp only [decide_eq_true_eq]
        exact fun z => q (z ▸ hU)
    show (if (SeqAt.shaped (tabD T) && SeqAt.shaped (.list (E.map tabD))) = true then some (inD (tabD T) (E.map tabD)) else none) = _
    rw [shaped_of can_tab (by decide), shaped_of can_tabs (by decide), e]; rfl
  unfold gIn; rw [h]; rfl
theorem pick_tab {E : List Tb} {r : Int} (h0 : 0 ≤ r) (h1 : r < (E.map tabD).length) : ∃ T ∈ E, gIx (.list (E.map tabD)) (.int r) = some (tabD T) := by
  obtain ⟨k, rfl⟩ : ∃ k : Nat, r = k := ⟨r.toNat, by omega⟩
  rw [List.length_map] at h1
  have hk : k < E.length := by omega
  exact ⟨E[k], List.getElem_mem hk, gIx_at (n := k) rfl (by simp [hk])⟩
theorem e_right {l : List D} {q n : Nat} {E : List Tb} (hE : AllH n E) (hl : E.length ≤ 4096) (h : SrcQ q l) (hq : q ≤ 40000) (hn : 2 ≤ n) (hn2 : n ≤ 4) : ∃ l', SrcQ (q + 100) l' ∧ m__law_right [.own (.lst l), .fz (.list (E.map tabD)), .fz (.int n)] = .ok (.fz (.bool true)) [.own (.lst l'), .fz (.list (E.map tabD)), .fz (.int n)] := by
  have hmem : ∀ T ∈ E, HisN n 4 T := fun T hT => (hE T).mp hT
  have hne : 0 < E.length := by
    have : tabOf n (fun _ _ => 0) ∈ E := (hE _).mpr ⟨tabOf_len, tabOf_shp, fun i j h1 h2 => by rw [dy_tabOf h1 h2]; omega, const_tri⟩
    exact List.length_pos_of_mem this
  have gl : gLen [.list (E.map tabD)] = some (.int ((E.map tabD).length : Nat)) := gLen_lst
  have el : (E.map tabD).length = E.length := List.length_map _
  generalize hev : PyData.list (E.map tabD) = ev at gl
  obtain ⟨l0, r0, p0, a0, b0, e0⟩ := e_draw (m := 7) h (by omega) (by decide) (by decide)
  obtain ⟨z0, rfl⟩ : ∃ k : Nat, r0 = k := ⟨r0.toNat, by omega⟩
  obtain ⟨l1, bs1, p1, n1, ok1, e1⟩ := e_wild (n := n) (sz := z0) p0 (by omega) hn (by omega) (by omega)
  obtain ⟨l2, r2, p2, a2, b2, e2⟩ := e_draw (m := 3) p1 (by omega) (by decide) (by decide)
  have key : Wp b__law_right [.own (.lst l), .fz ev, .fz (.int n), .un, .un, .un, .un, .un, .un] fun f ρ => ∃ l', SrcQ (q + 100) l' ∧ f = .ret (.fz (.bool true)) ∧ backS [.own (.lst l), .fz ev, .fz (.int n)] ρ = some [.own (.lst l'), .fz ev, .fz (.int n)] := by
    unfold b__law_right
    refine wp_set (ofR_ok (eCallF_ok (aSlot_own rfl (eCons_ok (aFz_ok (eVar_ok rfl)) (eCons_ok (aFz_ok rfl) (eCons_ok (aFz_ok (ofR_ok (eCallF_ok (aSlot_own rfl (eCons_ok (aFz_ok rfl) rfl)) (callF_rf1 rfl e0)))) rfl)))) (callF_rf3 rfl e1))) (by simp) (wp_seq ?_)
    have rest : ∀ (lq : List D) (bs : List Bd), SrcQ (q + 90) lq → bs.length ≤ 6 → (∀ b ∈ bs, Bd4 n b) → Wp
      (sSeq (sSet 4 (ofR (eCallF m__law_keeping (eCons (aFz (eVar 1)) (eCons (aFz (eVar 3)) eNil)))))
    (sSeq (sSet 5 (eBin gNeX (eVar 4) (ofO (oLst eNil))))
    (sSeq (sSet 6 (ofO (oLst (eCons (ofR (eCallF m_is_possible (eCons (aFz (eVar 2)) (eCons (aFz (eVar 3)) eNil)))) (eCons (ofR (eCallF m_is_possible (mPick [1, 0] (eCons (aFz (eVar 3)) (eCons (aFz (eVar 2)) eNil))))) eNil)))))
    (sSeq (sIf (bOr (bNot (asB (ofR (eCallF m__law_same (eCons (aFz (eVar 6)) (eCons (aFz (ofO (oLst (eCons (eVar 5) (eCons (eVar 5) eNil))))) eNil)))))) (asB (eBin gNeX (eBin gIs (ofR (eCallF m_conflict (mPick [0, 1] (eCons (aFz (eVar 2)) (eCons (aFz (eVar 3)) eNil))))) (eC .none)) (eVar 5))))
    (sRet (eC (.bool false)))
    sNext)
    (sSeq (sFor (iSeq (ofO (oLst (eCons (eBin gIx (eVar 1) (ofR (eCallF m__law_take (aSlot 0 (eCons (aFz (eCall gLen (eCons (eVar 1) eNil))) eNil))))) (eCons (eIf (asB (eVar 5)) (eBin gIx (eVar 4) (eC (.int 0))) (eBin gIx (eVar 1) (eC (.int 0)))) eNil))))) (.nm 7)
    (sIf (bNot (asB (ofR (eCallF m__law_same (eCons (aFz (ofO (oLst (eCons (ofR (eCallF m_keeps (eCons (aFz (eVar 7)) (eCons (aFz (eVar 3)) eNil)))) (eCons (ofR (eCallF m_keeps (mPick [1, 0] (eCons (aFz (eVar 3)) (eCons (aFz (eVar 7)) eNil))))) eNil))))) (eCons (aFz (eBin gMul (ofO (oLst (eCons (eBin gIn (eVar 7) (eVar 4)) eNil))) (eC (.int 2)))) eNil))))))
    (sRet (eC (.bool false)))
    sNext))
    (sSeq (sIf (bNot (asB (eVar 5)))
    (sRet (eC (.bool true)))
    sNext)
    (sSeq (sSet 8 (ofR (eCallF m__law_least (eCons (aFz (eVar 4)) eNil))))
    (sRet (ofR (eCallF m__law_same (eCons (aFz (ofO (oLst (eCons (ofR (eCallF m_earliest (eCons (aFz (eVar 2)) (eCons (aFz (eVar 3)) eNil)))) (eCons (ofR (eCallF m_earliest (mPick [1, 0] (eCons (aFz (eVar 3)) (eCons (aFz (eVar 2)) eNil))))) eNil))))) (eCons (aFz (ofO (oLst (eCons (eVar 8) (eCons (eVar 8) eNil))))) eNil))))))))))))
      [.own (.lst lq), .fz ev, .fz (.int n), .fz (tdD bs), .un, .un, .un, .un, .un] fun f ρ => ∃ l', SrcQ (q + 100) l' ∧ f = .ret (.fz (.bool true)) ∧ backS [.own (.lst l), .fz ev, .fz (.int n)] ρ = some [.own (.lst l'), .fz ev, .fz (.int n)] := by
      intro lq bs pl bl ok4
      have ok : ∀ b ∈ bs, BdOk n b := fun b hb => (ok4 b hb).1
      have bl2 : bs.length ≤ 1000 := by omega
      have ek := e_keeping hmem hl ok
      have ep := e_is_possible ok (by omega) (by omega) bl2
      obtain ⟨cd, ec, gc⟩ := e_conflict ok (by omega) (by omega) bl2
      have ee := fun hk => e_earliest ok (show 0 < n by omega) (by omega) bl2 hk
      have ch := clo_his4 (n := n) (bs := bs) fun b hb => (ok4 b hb).2
      have fm : ∀ T, (T ∈ E.filter fun T => keep T bs) ↔ HisN n 4 T ∧ keep T bs = true := fun T => by rw [List.mem_filter, hE]
      have fl := List.length_filter_le (fun T => keep T bs) E
      have le : ∀ T, HisN n 4 T → keep T bs = true → leB (clo n bs) T = true := fun T h1 h2 => cl_most h1 h2
      have some_ : (!((E.filter fun T => keep T bs).map tabD).isEmpty) = keep (clo n bs) bs := by
        cases hk : keep (clo n bs) bs with
        | true =>
          have := (fm (clo n bs)).mpr ⟨ch, hk⟩
          cases hf : (E.filter fun T => keep T bs) with
          | nil => rw [hf] at this; cases this
          | cons _ _ => rfl
        | false =>
          cases hf : (E.filter fun T => keep T bs) with
          | nil => rfl
          | cons T _ =>
            have := (fm T).mp (by rw [hf]; simp)
            have : keep (clo n bs) bs = true := kept_cl ok _ this.1 this.2
            rw [hk] at this; cases this
      generalize hfs : (E.filter fun T => keep T bs) = fs at ek fm some_ fl
      rw [hev] at ek
      generalize hsm : keep (clo n bs) bs = sm at some_ ep gc ee
      obtain ⟨l3, r3, p3, a3, b3, e3⟩ := e_draw (m := ((E.map tabD).length : Nat)) pl (by omega) (by omega) (by omega)
      obtain ⟨A, hA, gA⟩ := pick_tab a3 b3
      rw [hev] at gA
      obtain ⟨B0, hB0, gB0⟩ := pick_tab (E := E) (r := 0) (by decide) (by omega)
      rw [hev] at gB0
      have hB : ∃ B ∈ E, eIf (asB (eVar 5)) (eBin gIx (eVar 4) (eC (.int 0))) (eBin gIx (eVar 1) (eC (.int 0))) [.own (.lst l3), .fz ev, .fz (.int n), .fz (tdD bs), .fz (.list (fs.map tabD)), .fz (.bool sm), .fz (.list [.bool sm, .bool sm]), .un, .un] = .ok (tabD B) [.own (.lst l3), .fz ev, .fz (.int n), .fz (tdD bs), .fz (.list (fs.map tabD)), .fz (.bool sm), .fz (.list [.bool sm, .bool sm]), .un, .un] := by
        cases sm with
        | false => exact ⟨B0, hB0, eIf_f (asB_ok (eVar_ok rfl)) (eBin_ok (eVar_ok rfl) rfl gB0)⟩
        | true =>
          have hf1 : 0 < (fs.map tabD).length := by
            cases hf : fs with
            | nil => rw [hf] at some_; cases some_
            | cons _ _ => simp
          obtain ⟨B, hB, gB⟩ := pick_tab (E := fs) (r := 0) (by decide) (by omega)
          exact ⟨B, (hE B).mpr ((fm B).mp hB).1, eIf_t (asB_ok (eVar_ok rfl)) (eBin_ok (eVar_ok rfl) rfl gB)⟩
      obtain ⟨B, hB, eB⟩ := hB
      refine wp_set (ofR_own (eCF_ok (eCons_ok (aFz_ok (eVar_ok rfl)) (eCons_ok (aFz_ok (eVar_ok rfl)) rfl)) rfl ek rfl)) (by simp) ?_
      refine wp_set (eBin_ok (eVar_ok rfl) (ofO_ok (oLst_ok eNil_ok (by simp))) (gNeX_lst0.trans (by rw [some_]))) (by simp) ?_
      refine wp_set (ofO_ok (oLst_ok (eCons_ok (ofR_ok (eCF_ok (eCons_ok (aFz_ok (eVar_ok rfl)) (eCons_ok (aFz_ok (eVar_ok rfl)) rfl)) rfl ep rfl)) (eCons_ok (ofR_ok (eCF_ok (mPick_any (eCons_ok (aFz_ok (eVar_ok rfl)) (eCons_ok (aFz_ok (eVar_ok rfl)) rfl)) rfl) rfl ep rfl)) rfl)) (by simp))) (by simp) ?_
      refine wp_seq1 (sIf_f (bOr_f (bNot_ok (b := true) (asB_ok (ofR_ok (eCF_ok (eCons_ok (aFz_ok (eVar_ok rfl)) (eCons_ok (aFz_ok (ofO_ok (oLst_ok (eCons_ok (eVar_ok rfl) (eCons_ok (eVar_ok rfl) rfl)) (by simp)))) rfl)) rfl (same_bools sm) rfl)))) (asB_ok (eBin_ok (eBin_ok (ofR_ok (eCF_ok (mPick_any (eCons_ok (aFz_ok (eVar_ok rfl)) (eCons_ok (aFz_ok (eVar_ok rfl)) rfl)) rfl) rfl ec rfl)) rfl gc) (eVar_ok rfl) (gNeX_same sm)))) rfl) (wp_seq ?_)
      refine' wp_for (ds := [tabD A, tabD B]) (fun _ ρ => ∃ s7, ρ = [.own (.lst l3), .fz ev, .fz (.int n), .fz (tdD bs), .fz (.list (fs.map tabD)), .fz (.bool sm), .fz (.list [.bool sm, .bool sm]), s7, .un])
        (iSeq_any (ofO_ok (oLst_ok (eCons_ok (eBin_ok (eVar_ok rfl) (ofR_ok (eCallF_ok (aSlot_own rfl (eCons_ok (aFz_ok (eCall_ok (eCons_ok (eVar_ok rfl) rfl) gl)) rfl)) (callF_rf1 rfl e3))) gA) (eCons_ok eB rfl)) (by simp))) rfl) ⟨_, rfl⟩ ?st ?q
      case st =>
        rintro k d ρ hd ⟨s7, rfl⟩
        have hT : ∃ T ∈ E, d = tabD T := by
          rcases List.mem_cons.mp (List.mem_of_getElem? hd) with z | z
          · exact ⟨A, hA, z⟩
          · rw [List.mem_singleton] at z; exact ⟨B, hB, z⟩
        obtain ⟨T, hTE, rfl⟩ := hT
        have hT := hmem T hTE
        have eks := e_keeps hT (by omega) (by omega) ok
        have gi : gIn (tabD T) (.list (fs.map tabD)) = some (.bool (keep T bs)) := by
          have ed : decide (T ∈ fs) = keep T bs := by
            rw [Bool.eq_iff_iff, decide_eq_true_eq, fm]
            exact ⟨fun z => z.2, fun z => ⟨hT, z⟩⟩
          rw [gIn_tab, ed]
        exact ⟨_, set_nm (by simp), wp_ok (sIf_f (bNot_ok (b := true) (asB_ok (ofR_ok (eCF_ok (eCons_ok (aFz_ok (ofO_ok (oLst_ok (eCons_ok (ofR_ok (eCF_ok (eCons_ok (aFz_ok (eVar_ok rfl)) (eCons_ok (aFz_ok (eVar_ok rfl)) rfl)) rfl eks rfl)) (eCons_ok (ofR_ok (eCF_ok (mPick_any (eCons_ok (aFz_ok (eVar_ok rfl)) (eCons_ok (aFz_ok (eVar_ok rfl)) rfl)) rfl) rfl eks rfl)) rfl)) (by simp)))) (eCons_ok (aFz_ok (eBin_ok (ofO_ok (oLst_ok (eCons_ok (eBin_ok (eVar_ok rfl) (eVar_ok rfl) gi) rfl) (by simp))) rfl gMul_two)) rfl)) rfl (same_bools _) rfl)))) rfl) ⟨.inl rfl, _, rfl⟩⟩
      case q =>
        rintro ρ' ⟨s7, rfl⟩
        refine ⟨rfl, ?_⟩
        cases sm with
        | false =>
          exact wp_seqR (wp_ok (sIf_t (bNot_ok (b := false) (asB_ok (eVar_ok rfl))) (sRet_ok rfl)) (.inr ⟨_, rfl, l3, p3.mono (by omega), rfl, rfl⟩))
        | true =>
          have eL := e_least (C := clo n bs) (fs := fs) (n := n) (fun T hT => ((fm T).mp hT).1) ((fm _).mpr ⟨ch, hsm⟩) (fun T hT => le T ((fm T).mp hT).1 ((fm T).mp hT).2) (by omega) (by omega)
          have es := e_same2 (T := clo n bs) ch.shp (by rw [ch.len]; omega)
          refine wp_seq1 (sIf_f (bNot_ok (b := true) (asB_ok (eVar_ok rfl))) rfl) ?_
          refine wp_set (ofR_ok (eCF_ok (eCons_ok (aFz_ok (eVar_ok rfl)) rfl) rfl eL rfl)) (by simp) ?_
          exact wp_ret (ofR_ok (eCF_ok (eCons_ok (aFz_ok (ofO_ok (oLst_ok (eCons_ok (ofR_ok (eCF_ok (eCons_ok (aFz_ok (eVar_ok rfl)) (eCons_ok (aFz_ok (eVar_ok rfl)) rfl)) rfl (ee rfl) rfl)) (eCons_ok (ofR_ok (eCF_ok (mPick_any (eCons_ok (aFz_ok (eVar_ok rfl)) (eCons_ok (aFz_ok (eVar_ok rfl)) rfl)) rfl) rfl (ee rfl) rfl)) rfl)) (by simp)))) (eCons_ok (aFz_ok (ofO_ok (oLst_ok (eCons_ok (eVar_ok rfl) (eCons_ok (eVar_ok rfl) rfl)) (by simp)))) rfl)) rfl es rfl)) ⟨l3, p3.mono (by omega), rfl, rfl⟩
    refine wp_if (asB_ok (eBin_ok (ofR_ok (eCallF_ok (aSlot_own rfl (eCons_ok (aFz_ok rfl) rfl)) (callF_rf1 rfl e2))) rfl gEqX_int)) (fun _ => ?_) (fun _ => ?_)
    · obtain ⟨l3, T, p3, hT, e3⟩ := e_tree (n := n) p2 (by omega) (by omega) hn2
      obtain ⟨l4, r4, p4, a4, b4, e4⟩ := e_draw (m := 7) p3 (by omega) (by decide) (by decide)
      obtain ⟨z4, rfl⟩ : ∃ k : Nat, r4 = k := ⟨r4.toNat, by omega⟩
      obtain ⟨l5, bs5, p5, n5, ok5, e5⟩ := e_true (n := n) (sz := z4) hT p4 (by omega) hn (by omega) (by omega)
      refine wp_ok (sSet_ok (ofR_ok (eCallF_ok (aSlot_own rfl (eCons_ok (aFz_ok (ofR_ok (eCallF_ok (aSlot_own rfl (eCons_ok (aFz_ok (eVar_ok rfl)) (eCons_ok (aFz_ok rfl) rfl))) (callF_rf2 rfl e3)))) (eCons_ok (aFz_ok rfl) (eCons_ok (aFz_ok (ofR_ok (eCallF_ok (aSlot_own rfl (eCons_ok (aFz_ok rfl) rfl)) (callF_rf1 rfl e4)))) rfl)))) (callF_rf3 rfl e5))) (by simp)) ⟨rfl, ?_⟩
      exact rest l5 bs5 (p5.mono (by omega)) n5 ok5
    · exact wp_next ⟨rfl, rest l2 bs1 (p2.mono (by omega)) n1 ok1⟩
  obtain ⟨f, ρ, e, l', h1, h2, h3⟩ := key
  exact ⟨l', h1, fnP_wp rfl rfl ⟨f, ρ, e, h2, h3⟩⟩
end My

/-! K08k: the values at the law's end. -/
namespace My
open PySem PySem.Spec L2 DL
def bsL : List Bd := [(0, 1, 5, none), (0, 2, 0, some 3)]
theorem bsL_ok : ∀ b ∈ bsL, BdOk 3 b := by
  intro b hb
  rcases List.mem_cons.mp hb with z | z
  · subst z; exact ⟨by decide, by decide, by decide, by decide, by decide, fun h z => by cases z⟩
  · rw [List.mem_singleton] at z
    subst z; exact ⟨by decide, by decide, by decide, by decide, by decide, fun h z => by cases z; decide⟩
theorem cloL : clo 3 bsL = [[], [5], [0, 0]] := by decide +kernel
theorem clo1 : clo 1 [] = [[]] := by decide +kernel
theorem end_vals : m_is_possible [.fz (.int 1), .fz (.tuple [])] = .ok (.fz (.bool true)) [.fz (.int 1), .fz (.tuple [])] ∧ m_earliest [.fz (.int 1), .fz (.tuple [])] = .ok (.fz (tabD [[]])) [.fz (.int 1), .fz (.tuple [])] ∧
    m_earliest [.fz (.int 3), .fz (tdD bsL)] = .ok (.fz (tabD [[], [5], [0, 0]])) [.fz (.int 3), .fz (tdD bsL)] ∧ m_conflict [.fz (.int 1), .fz (.tuple [])] = .ok (.fz .none) [.fz (.int 1), .fz (.tuple [])] := by
  have h1 := e_is_possible (n := 1) (bs := []) (by simp) (by decide) (by decide) (by simp)
  have h2 := e_earliest (n := 1) (bs := []) (by simp) (by decide) (by decide) (by simp) rfl
  have h3 := e_earliest (n := 3) (bs := bsL) bsL_ok (by decide) (by decide) (by simp [bsL]) (by rw [cloL]; decide +kernel)
  obtain ⟨d, h4, h5⟩ := e_conflict (n := 1) (bs := []) (by simp) (by decide) (by decide) (by simp)
  rw [clo1] at h2
  rw [cloL] at h3
  have : d = .none := by
    have e : keep (clo 1 []) [] = true := rfl
    rw [e] at h5
    cases d <;> first | rfl | (simp [gIs, DL.isNon] at h5)
  subst this
  exact ⟨h1, h2, h3, h4⟩
theorem end_same : m__law_same [.fz (.list [.bool true, tabD [[]], tabD [[], [5], [0, 0]], .none]), .fz (.list [.bool true, tabD [[]], tabD [[], [5], [0, 0]], .none])] = .ok (.fz (.bool true)) [.fz (.list [.bool true, tabD [[]], tabD [[], [5], [0, 0]], .none]), .fz (.list [.bool true, tabD [[]], tabD [[], [5], [0, 0]], .none])] :=
  s_seq (n := 5) (.inr rfl) (by simp) fun x hx => by
    have c1 : ∀ k, mf__law_same (k + 3) [.fz (tabD [[]]), .fz (tabD [[]])] = .ok (.fz (.bool true)) [.fz (tabD [[]]), .fz (tabD [[]])] := fun k => s_tab his1.shp (by simp)
    have c2 : ∀ k, mf__law_same (k + 3) [.fz (tabD [[], [5], [0, 0]]), .fz (tabD [[], [5], [0, 0]])] = .ok (.fz (.bool true)) [.fz (tabD [[], [5], [0, 0]]), .fz (tabD [[], [5], [0, 0]])] := fun k => s_tab (fun j hj => by
      have : j = 0 ∨ j = 1 ∨ j = 2 := by simp at hj; omega
      rcases this with z | z | z <;> subst z <;> rfl) (by simp)
    rcases List.mem_cons.mp hx with z | z
    · subst z; exact s_bool 4 true
    rcases List.mem_cons.mp z with z | z
    · subst z; exact c1 2
    rcases List.mem_cons.mp z with z | z
    · subst z; exact c2 2
    rw [List.mem_singleton] at z
    subst z; exact s_none 4
end My

/-! K08m: the law holds. -/
namespace My
open PySem PySem.Spec L2 DL
theorem hN_of (k : Nat) : gMax [.int 1, .int (min 4 (k : Int))] = some (.int ((max 1 (min 4 k) : Nat) : Int)) := by
  have e : max 1 (min 4 (k : Int)) = ((max 1 (min 4 k) : Nat) : Int) := by omega
  rw [gMax_int, e]
theorem law_true : LawOk m_law 63 := by
  intro ns hns
  obtain ⟨E2, hE2, hl2, e2⟩ := e_all (n := 2) (by decide) (by decide)
  obtain ⟨E3, hE3, hl3, e3⟩ := e_all (n := 3) (by decide) (by decide)
  obtain ⟨E4, hE4, hl4, e4⟩ := e_all (n := 4) (by decide) (by decide)
  obtain ⟨v1, v2, v3, v4⟩ := end_vals
  have key : Wp b_law [.fz (scrD ns), .un, .un, .un, .un, .un, .un] fun f ρ => f = .ret (.fz (.bool true)) ∧ ∃ ss, backS [.fz (scrD ns)] ρ = some ss := by
    unfold b_law
    refine wp_set (ofO_ok (oLst_ok (eCons_ok rfl (eCons_ok rfl (eCons_ok (ofR_ok (eCF_ok (eCons_ok (aFz_ok rfl) (eCons_ok (aFz_ok rfl) rfl)) rfl e2 rfl)) (eCons_ok (ofR_ok (eCF_ok (eCons_ok (aFz_ok rfl) (eCons_ok (aFz_ok rfl) rfl)) rfl e3 rfl)) (eCons_ok (ofR_ok (eCF_ok (eCons_ok (aFz_ok rfl) (eCons_ok (aFz_ok rfl) rfl)) rfl e4 rfl)) rfl))))) (by simp))) (by simp) (wp_seq ?_)
    have hp : ∀ (k : Nat) (d : D), [PyData.int 2, .int 3, .int 3, .int 3, .int 4, .int 4][k]? = some d → ∃ n E, 2 ≤ n ∧ n ≤ 4 ∧ AllH n E ∧ E.length ≤ 4096 ∧ d = .int (n : Nat) ∧ gIx (.list [.none, .none, .list (E2.map tabD), .list (E3.map tabD), .list (E4.map tabD)]) d = some (.list (E.map tabD)) := fun k d hd => by
      have hm := List.mem_of_getElem? hd
      simp only [List.mem_cons, List.not_mem_nil, or_false] at hm
      rcases hm with z | z | z | z | z | z <;> subst z
      · exact ⟨2, E2, by decide, by decide, hE2, hl2, rfl, rfl⟩
      · exact ⟨3, E3, by decide, by decide, hE3, hl3, rfl, rfl⟩
      · exact ⟨3, E3, by decide, by decide, hE3, hl3, rfl, rfl⟩
      · exact ⟨3, E3, by decide, by decide, hE3, hl3, rfl, rfl⟩
      · exact ⟨4, E4, by decide, by decide, hE4, hl4, rfl, rfl⟩
      · exact ⟨4, E4, by decide, by decide, hE4, hl4, rfl, rfl⟩
    generalize hev : PyData.list [.none, .none, .list (E2.map tabD), .list (E3.map tabD), .list (E4.map tabD)] = ev at hp
    have hN := hN_of ns.length
    refine' wp_for (fun _ ρ => ∃ s2 s3 s4 s5, ρ = [.fz (scrD ns), .fz ev, s2, s3, s4, s5, .un])
      (iOpt_ok (eCons_ok (eCall_ok (eCons_ok rfl (eCons_ok (eCall_ok (eCons_ok rfl (eCons_ok (eCall_ok (eCons_ok (eVar_ok rfl) rfl) e_len_scr) rfl)) gMin_int) rfl)) hN) rfl) (rng1_ok (n := max 1 (min 4 ns.length)) rfl (by omega))) ⟨_, _, _, _, rfl⟩ ?st2 ?q2
    case q2 =>
      rintro ρ' ⟨s2, s3, s4, s5, rfl⟩
      refine ⟨rfl, ?_⟩
      refine wp_set (d := .list [.bool true, tabD [[]], tabD [[], [5], [0, 0]], .none]) (ofO_ok (oLst_ok (eCons_ok (ofR_ok (eCF_ok (eCons_ok (aFz_ok rfl) (eCons_ok (aFz_ok (eTup_ok eNil_ok (by simp))) rfl)) rfl v1 rfl)) (eCons_ok (ofR_ok (eCF_ok (eCons_ok (aFz_ok rfl) (eCons_ok (aFz_ok (eTup_ok eNil_ok (by simp))) rfl)) rfl v2 rfl)) (eCons_ok (ofR_ok (eCF_ok (eCons_ok (aFz_ok rfl) (eCons_ok (aFz_ok (d := tdD bsL) (eTup_ok (eCons_ok (eTup_ok (eCons_ok rfl (eCons_ok rfl (eCons_ok rfl (eCons_ok rfl rfl)))) (by simp)) (eCons_ok (eTup_ok (eCons_ok rfl (eCons_ok rfl (eCons_ok rfl (eCons_ok rfl rfl)))) (by simp)) rfl)) (show (2 : Nat) ≤ 16777216 by decide))) rfl)) rfl v3 rfl)) (eCons_ok (ofR_ok (eCF_ok (eCons_ok (aFz_ok rfl) (eCons_ok (aFz_ok (eTup_ok eNil_ok (by simp))) rfl)) rfl v4 rfl)) rfl)))) (by simp))) (by simp) ?_
      exact wp_ret (ofR_ok (eCF_ok (eCons_ok (aFz_ok (eVar_ok rfl)) (eCons_ok (aFz_ok (d := .list [.bool true, tabD [[]], tabD [[], [5], [0, 0]], .none]) (ofO_ok (oLst_ok (eCons_ok rfl (eCons_ok (eTup_ok (eCons_ok (eTup_ok eNil_ok (by simp)) rfl) (by simp)) (eCons_ok (eTup_ok (eCons_ok (eTup_ok eNil_ok (by simp)) (eCons_ok (eTup_ok (eCons_ok rfl rfl) (by simp)) (eCons_ok (eTup_ok (eCons_ok rfl (eCons_ok rfl rfl)) (by simp)) rfl))) (by simp)) (eCons_ok rfl rfl)))) (by simp)))) rfl)) rfl end_same rfl)) ⟨rfl, _, rfl⟩
    case st2 =>
      rintro k d ρ hd ⟨s2, s3, s4, s5, rfl⟩
      obtain ⟨hk, rfl⟩ := range_at hd
      obtain ⟨x, ex⟩ := e_cell (ns := ns) (k := k)
      obtain ⟨l0, p0, e0⟩ := e_source (x := x) (k := k) (by omega)
      refine ⟨_, set_nm (by simp), ?_⟩
      refine wp_setO (ownR_ok (eCF_ok (eCons_ok (aFz_ok (ofR_ok (eCF_ok (eCons_ok (aFz_ok (eVar_ok rfl)) (eCons_ok (aFz_ok (eVar_ok rfl)) rfl)) rfl ex rfl))) (eCons_ok (aFz_ok (eVar_ok rfl)) rfl)) rfl e0 rfl)) (by simp) ?_
      refine' wp_for (ds := [.int 2, .int 3, .int 3, .int 3, .int 4, .int 4]) (fun i ρ => ∃ (l' : List D) (s4 s5 : Slot), SrcQ (400 * i) l' ∧ ρ = [.fz (scrD ns), .fz ev, .fz (.int (k : Nat)), .own (.lst l'), s4, s5, .un])
        (iSeq_any (ofO_ok (oLst_ok (eCons_ok rfl (eCons_ok rfl (eCons_ok rfl (eCons_ok rfl (eCons_ok rfl (eCons_ok rfl rfl)))))) (by simp))) rfl) ⟨l0, s4, s5, p0, rfl⟩ ?st3 ?q3
      case q3 =>
        rintro ρ' ⟨l', s4, s5, _, rfl⟩
        exact ⟨.inl rfl, _, _, _, _, rfl⟩
      case st3 =>
        rintro i d ρ hd ⟨l', s4, s5, pl, rfl⟩
        have hi : i < 6 := (List.getElem?_eq_some_iff.mp hd).1
        obtain ⟨n, E, hn, hn2, hE, hl, rfl, gE⟩ := hp i d hd
        refine ⟨_, set_nm (by simp), ?_⟩
        refine' wp_for (fun j ρ => ∃ (l' : List D) (s5 : Slot), SrcQ (400 * i + 100 * j) l' ∧ ρ = [.fz (scrD ns), .fz ev, .fz (.int (k : Nat)), .own (.lst l'), .fz (.int (n : Nat)), s5, .un])
          (iOpt_ok (eCons_ok rfl rfl) (rng1_ok (n := 4) rfl (by decide))) ⟨l', s5, pl, rfl⟩ ?st4 ?q4
        case q4 =>
          rintro ρ' ⟨l', s5, pl, rfl⟩
          rw [List.length_map, List.length_range] at pl
          exact ⟨.inl rfl, l', _, _, pl.mono (by omega), rfl⟩
        case st4 =>
          rintro j d ρ hd ⟨l', s5, pl, rfl⟩
          obtain ⟨hj, rfl⟩ := range_at hd
          obtain ⟨l5, p5, e5⟩ := e_right hE hl pl (by omega) hn hn2
          refine ⟨_, set_nm (by simp), ?_⟩
          exact wp_ok (sIf_f (bNot_ok (b := true) (asB_ok (ofR_ok (eCallF_ok (aSlot_own rfl (eCons_ok (aFz_ok (eBin_ok (eVar_ok rfl) (eVar_ok rfl) gE)) (eCons_ok (aFz_ok (eVar_ok rfl)) rfl))) (callF_rf2 rfl e5))))) rfl) ⟨.inl rfl, l5, .fz (.int (j : Nat)), p5.mono (by omega), rfl⟩
  obtain ⟨f, ρ, e, rfl, ss, hb⟩ := key
  exact ⟨ss, fnP_ok rfl rfl e hb⟩
end My

namespace My
open PySem PySem.Spec L2 DL
theorem fin_mk {P : Program} {w : World} {K : PySem.W.Frag} {mg : Str → Option Value} {fa : Addr} (h : ∃ T : Txt K mg, mg "law" = some (.ref T.a_law) ∧ ∀ (s : Shared) (u : Value), BindsTo s T.fd_law ⟨[u], []⟩ [("script", u)]) (hmg : mg "law" = some (.ref fa)) :
    ∃ fd : FuncData, (∀ (s : Shared) (u : Value), BindsTo s fd ⟨[u], []⟩ [("script", u)]) ∧ ∀ base : Heap, K.In base → base.Ns mainGlobals mg → FnG P w K mg base 9 fa fd ["script"] m_law := by
  obtain ⟨T, e, hb⟩ := h
  have e2 := hmg.symm.trans e
  cases e2
  exact ⟨_, hb, fun base _ _ => ok_law T⟩
end My
open PySem PySem.W PyProof.Rows
set_option maxHeartbeats 0 in
theorem PySem.Challenge.cw_commondays_k08_bounds_by_all_histories_holds : PySem.Challenge.rw_commondays_k08_bounds_by_all_histories.Holds := by
  w_on; o_law; k_head; (case hw => w_witness2)
  k_fill
  refine DL.law_end (l := PySem.Challenge.rw_commondays_k08_bounds_by_all_histories) (n := 63) (k := 9) (x := "script") (F := My.m_law) rfl (by decide) rfl ⟨rfl, by decide, by decide⟩ (fun w h Y => PySem.W.kIn_of Y) My.law_true ?F
  case F =>
    intro w mg fa h KX G hmg
    refine' My.fin_mk (My.txt_mk (K := _) KX G ?a0 ?l0 ?c0 ?k0 ?a1 ?l1 ?c1 ?k1 ?a2 ?l2 ?c2 ?k2 ?a3 ?l3 ?c3 ?k3 ?a4 ?l4 ?c4 ?k4 ?a5 ?l5 ?c5 ?k5 ?a6 ?l6 ?c6 ?k6 ?a7 ?l7 ?c7 ?k7 ?a8 ?l8 ?c8 ?k8 ?a9 ?l9 ?c9 ?k9 ?a10 ?l10 ?c10 ?k10 ?a11 ?l11 ?c11 ?k11 ?a12 ?l12 ?c12 ?k12 ?a13 ?l13 ?c13 ?k13 ?a14 ?l14 ?c14 ?k14 ?a15 ?l15 ?c15 ?k15 ?a16 ?l16 ?c16 ?k16 ?a17 ?l17 ?c17 ?k17 ?a18 ?l18 ?c18 ?k18 ?a19 ?l19 ?c19 ?k19 ?a20 ?l20 ?c20 ?k20 ?a21 ?l21 ?c21 ?k21 ?a22 ?l22 ?c22 ?k22 ?a23 ?l23 ?c23 ?k23 ?a24 ?l24 ?c24 ?k24 ?a25 ?l25 ?c25 ?k25 ?a26 ?l26 ?c26 ?k26 ?a27 ?l27 ?c27 ?k27 ?a28 ?l28 ?c28 ?k28 ?a29 ?l29 ?c29 ?k29 ?a30 ?l30 ?c30 ?k30 ?a31 ?l31 ?c31 ?k31 ?a32 ?l32 ?c32 ?k32 ?a33 ?l33 ?c33 ?k33 ?a34 ?l34 ?c34 ?k34 ?a35 ?l35 ?c35 ?k35 ?a36 ?l36 ?c36 ?k36 ?a37 ?l37 ?c37 ?k37 ?a38 ?l38 ?c38 ?k38 ?a39 ?l39 ?c39 ?k39 ?z0 ?z1 ?z2 ?z3 ?z4 ?z5 ?z6 ?z7 ?z8 ?z9 ?z10 ?z11 ?z12) hmg
    (case a0 => k_is)
    (case l0 => k_is)
    (case c0 => k_is)
    (case k0 => k_is)
    (case a1 => k_is)
    (case l1 => k_is)
    (case c1 => k_is)
    (case k1 => k_is)
    (case a2 => k_is)
    (case l2 => k_is)
    (case c2 => k_is)
    (case k2 => k_is)
    (case a3 => k_is)
    (case l3 => k_is)
    (case c3 => k_is)
    (case k3 => k_is)
    (case a4 => k_is)
    (case l4 => k_is)
    (case c4 => k_is)
    (case k4 => k_is)
    (case a5 => k_is)
    (case l5 => k_is)
    (case c5 => k_is)
    (case k5 => k_is)
    (case a6 => k_is)
    (case l6 => k_is)
    (case c6 => k_is)
    (case k6 => k_is)
    (case a7 => k_is)
    (case l7 => k_is)
    (case c7 => k_is)
    (case k7 => k_is)
    (case a8 => k_is)
    (case l8 => k_is)
    (case c8 => k_is)
    (case k8 => k_is)
    (case a9 => k_is)
    (case l9 => k_is)
    (case c9 => k_is)
    (case k9 => k_is)
    (case a10 => k_is)
    (case l10 => k_is)
    (case c10 => k_is)
    (case k10 => k_is)
    (case a11 => k_is)
    (case l11 => k_is)
    (case c11 => k_is)
    (case k11 => k_is)
    (case a12 => k_is)
    (case l12 => k_is)
    (case c12 => k_is)
    (case k12 => k_is)
    (case a13 => k_is)
    (case l13 => k_is)
    (case c13 => k_is)
    (case k13 => k_is)
    (case a14 => k_is)
    (case l14 => k_is)
    (case c14 => k_is)
    (case k14 => k_is)
    (case a15 => k_is)
    (case l15 => k_is)
    (case c15 => k_is)
    (case k15 => k_is)
    (case a16 => k_is)
    (case l16 => k_is)
    (case c16 => k_is)
    (case k16 => k_is)
    (case a17 => k_is)
    (case l17 => k_is)
    (case c17 => k_is)
    (case k17 => k_is)
    (case a18 => k_is)
    (case l18 => k_is)
    (case c18 => k_is)
    (case k18 => k_is)
    (case a19 => k_is)
    (case l19 => k_is)
    (case c19 => k_is)
    (case k19 => k_is)
    (case a20 => k_is)
    (case l20 => k_is)
    (case c20 => k_is)
    (case k20 => k_is)
    (case a21 => k_is)
    (case l21 => k_is)
    (case c21 => k_is)
    (case k21 => k_is)
    (case a22 => k_is)
    (case l22 => k_is)
    (case c22 => k_is)
    (case k22 => k_is)
    (case a23 => k_is)
    (case l23 => k_is)
    (case c23 => k_is)
    (case k23 => k_is)
    (case a24 => k_is)
    (case l24 => k_is)
    (case c24 => k_is)
    (case k24 => k_is)
    (case a25 => k_is)
    (case l25 => k_is)
    (case c25 => k_is)
    (case k25 => k_is)
    (case a26 => k_is)
    (case l26 => k_is)
    (case c26 => k_is)
    (case k26 => k_is)
    (case a27 => k_is)
    (case l27 => k_is)
    (case c27 => k_is)
    (case k27 => k_is)
    (case a28 => k_is)
    (case l28 => k_is)
    (case c28 => k_is)
    (case k28 => k_is)
    (case a29 => k_is)
    (case l29 => k_is)
    (case c29 => k_is)
    (case k29 => k_is)
    (case a30 => k_is)
    (case l30 => k_is)
    (case c30 => k_is)
    (case k30 => k_is)
    (case a31 => k_is)
    (case l31 => k_is)
    (case c31 => k_is)
    (case k31 => k_is)
    (case a32 => k_is)
    (case l32 => k_is)
    (case c32 => k_is)
    (case k32 => k_is)
    (case a33 => k_is)
    (case l33 => k_is)
    (case c33 => k_is)
    (case k33 => k_is)
    (case a34 => k_is)
    (case l34 => k_is)
    (case c34 => k_is)
    (case k34 => k_is)
    (case a35 => k_is)
    (case l35 => k_is)
    (case c35 => k_is)
    (case k35 => k_is)
    (case a36 => k_is)
    (case l36 => k_is)
    (case c36 => k_is)
    (case k36 => k_is)
    (case a37 => k_is)
    (case l37 => k_is)
    (case c37 => k_is)
    (case k37 => k_is)
    (case a38 => k_is)
    (case l38 => k_is)
    (case c38 => k_is)
    (case k38 => k_is)
    (case a39 => k_is)
    (case l39 => k_is)
    (case c39 => k_is)
    (case k39 => k_is)
    (case z0 => k_is)
    (case z1 => k_is)
    (case z2 => k_is)
    (case z3 => k_is)
    (case z4 => k_is)
    (case z5 => k_is)
    (case z6 => k_is)
    (case z7 => k_is)
    (case z8 => k_is)
    (case z9 => k_is)
    (case z10 => k_is)
    (case z11 => k_is)
    (case z12 => k_is)

