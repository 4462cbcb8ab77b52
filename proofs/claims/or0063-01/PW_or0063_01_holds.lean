import PyProof.Rows.All
import Wide.All
import OpenK.AllK
import Wide.FinOn
import PySem.Challenge.RW_or0063_01
set_option Elab.async false
set_option maxRecDepth 100000
set_option genSizeOf false
set_option genSizeOfSpec false
set_option bootstrap.genMatcherCode false
set_option compiler.extract_closed false
noncomputable section

section
open PySem PySem.W PyProof.Rows
set_option maxRecDepth 100000
namespace Mine

theorem cont {G : Prop} (h : ∀ P : Prop, (G → P) → P) : G := h G id

theorem room_b {a d L : Nat} (h : a + 3 * (d + 1) + 3 < L) : a + 1 + 3 * d + 3 < L := by omega
theorem room_d {u d L : Nat} (h : u + 20 * d + 100 < L) : u + 64 < L := by omega
theorem room_e {a d L : Nat} (h : a + 3 * d + 3 < L) : a + 1 < L := by omega
theorem room_c {a d L : Nat} (h : a + 20 * (d + 1) + 100 < L) : a + 3 + 20 * d + 100 < L := by omega
inductive AV where
  | none
  | bool (b : Bool)
  | int (i : Int)
  | str (s : List Nat)
  | bytes (b : List UInt8)
  | tup (vs : List AV)
  | val (v : Value)
  | loc (i : Nat)
  | wire (i : Nat)
  | fl (vs : List AV)

inductive XS where
  | fresh
  | bare
  | any
  deriving DecidableEq
noncomputable def XS.says (vs : Array Value) : XS → Prop
  | .fresh => vs.size = 6 ∧ vs[1]? = some .none ∧ vs[2]? = some .none
  | .bare => vs[2]? = some .none
  | .any => True

inductive TO where
  | list (vs : List AV)
  | wire (d : List UInt8) (a : Int)
  | barr (b : List UInt8)
  | exc (C : Addr) (a : Int) (x : XS)

noncomputable def Rsd (σ : List TO) (i : Nat) : Prop := ∃ C k b, σ[i]? = some (.exc C k b) ∧ b ≠ .fresh

structure Gh where
  frz : Addr → Option Obj
  loc : Nat → Option Addr

noncomputable def Gh.le (g g' : Gh) : Prop := (∀ b o, g.frz b = some o → g'.frz b = some o) ∧ ∀ i a, g.loc i = some a → g'.loc i = some a
theorem Gh.le.refl (g : Gh) : g.le g := ⟨fun _ _ e => e, fun _ _ e => e⟩
theorem Gh.le.trans {g₁ g₂ g₃ : Gh} (x : g₁.le g₂) (y : g₂.le g₃) : g₁.le g₃ := ⟨fun b o e => y.1 b o (x.1 b o e), fun i a e => y.2 i a (x.2 i a e)⟩

noncomputable abbrev tupObj (items : Array Value) (n : Nat) : Obj := { cls := .type "tuple", data := .seq items n }
noncomputable abbrev lstObj (items : Array Value) (n : Nat) : Obj := { cls := .type "list", data := .seq items n }

noncomputable abbrev wireC : Addr := 420

mutual
noncomputable def VR (g : Gh) : AV → Value → Prop
  | .none, v => v = .none
  | .bool b, v => v = .bool b
  | .int i, v => ∃ t, v = .int i t
  | .str s, v => ∃ t, v = .str ⟨s.toArray⟩ t
  | .bytes b, v => ∃ t, v = .bytes b.toArray t
  | .tup vs, v => ∃ a items n, v = .ref a ∧ g.frz a = some (tupObj items n) ∧ VRs g vs items.toList
  | .val u, v => v = u
  | .loc i, v => ∃ a, v = .ref a ∧ g.loc i = some a
  | .wire i, v => ∃ x dx, v = .ref x ∧ g.frz x = some (instObj wireC dx) ∧ g.loc i = some dx
  | .fl vs, v => ∃ a o items n, v = .ref a ∧ g.frz a = some o ∧ o.cls = .type "list" ∧ o.data = .seq items n ∧ VRs g vs items.toList
noncomputable def VRs (g : Gh) : List AV → List Value → Prop
  | [], vs => vs = []
  | a :: as, vs => ∃ v vs', vs = v :: vs' ∧ VR g a v ∧ VRs g as vs'
end

mutual
theorem VR.mono {g g' : Gh} (k : g.le g') : ∀ {a : AV} {v : Value}, VR g a v → VR g' a v
  | .none, _, h => h
  | .bool _, _, h => h
  | .int _, _, h => h
  | .str _, _, h => h
  | .bytes _, _, h => h
  | .tup _, _, h => by obtain ⟨a, items, n, e, f, r⟩ := h; exact ⟨a, items, n, e, k.1 _ _ f, VRs.mono k r⟩
  | .val _, _, h => h
  | .loc _, _, h => by obtain ⟨a, e, l⟩ := h; exact ⟨a, e, k.2 _ _ l⟩
  | .wire _, _, h => by obtain ⟨x, dx, e, f, l⟩ := h; exact ⟨x, dx, e, k.1 _ _ f, k.2 _ _ l⟩
  | .fl _, _, h => by obtain ⟨a, o, items, n, e, f, h1, h2, r⟩ := h; exact ⟨a, o, items, n, e, k.1 _ _ f, h1, h2, VRs.mono k r⟩
theorem VRs.mono {g g' : Gh} (k : g.le g') : ∀ {as : List AV} {vs : List Value}, VRs g as vs → VRs g' as vs
  | [], _, h => h
  | _ :: _, _, ⟨v, vs', e, h, r⟩ => ⟨v, vs', e, VR.mono k h, VRs.mono k r⟩
end

theorem VRs.length {g : Gh} : ∀ {as : List AV} {vs : List Value}, VRs g as vs → vs.length = as.length
  | [], _, h => by rw [show _ = [] from h]; rfl
  | _ :: _, _, ⟨_, _, e, _, r⟩ => by rw [e, List.length_cons, List.length_cons, VRs.length r]
theorem VRs.get {g : Gh} : ∀ {as : List AV} {vs : List Value} {i : Nat} {a : AV}, VRs g as vs → as[i]? = some a → ∃ v, vs[i]? = some v ∧ VR g a v
  | [], _, i, _, _, e => by simp at e
  | a :: as, _, 0, x, ⟨v, vs', e, h, r⟩, q => by
    subst e
    simp only [List.getElem?_cons_zero, Option.some.injEq] at q
    subst q
    exact ⟨v, rfl, h⟩
  | a :: as, _, i + 1, x, ⟨v, vs', e, h, r⟩, q => by
    subst e
    rw [List.getElem?_cons_succ] at q
    obtain ⟨u, hu, hr⟩ := VRs.get r q
    exact ⟨u, by rw [List.getElem?_cons_succ]; exact hu, hr⟩
theorem VRs.append {g : Gh} : ∀ {as bs : List AV} {vs us : List Value}, VRs g as vs → VRs g bs us → VRs g (as ++ bs) (vs ++ us)
  | [], _, _, _, h, h' => by rw [show _ = [] from h]; exact h'
  | _ :: _, _, _, _, ⟨v, vs', e, h, r⟩, h' => by subst e; exact ⟨v, vs' ++ _, rfl, h, VRs.append r h'⟩
theorem VRs.drop {g : Gh} : ∀ {as : List AV} {vs : List Value} (n : Nat), VRs g as vs → VRs g (as.drop n) (vs.drop n)
  | as, vs, 0, h => h
  | [], vs, n + 1, h => by rw [show vs = [] from h]; exact (show VRs g [] [] from rfl)
  | _ :: as, vs, n + 1, ⟨v, vs', e, _, r⟩ => by subst e; exact VRs.drop n r
theorem VRs.take {g : Gh} : ∀ {as : List AV} {vs : List Value} (n : Nat), VRs g as vs → VRs g (as.take n) (vs.take n)
  | as, vs, 0, _ => (show VRs g [] [] from rfl)
  | [], vs, n + 1, h => by rw [show vs = [] from h]; exact (show VRs g [] [] from rfl)
  | a :: as, vs, n + 1, ⟨v, vs', e, h, r⟩ => by subst e; exact ⟨v, _, rfl, h, VRs.take n r⟩
theorem VRs.cons {g : Gh} {a : AV} {as : List AV} {v : Value} {vs : List Value} (h : VR g a v) (r : VRs g as vs) : VRs g (a :: as) (v :: vs) := ⟨v, vs, rfl, h, r⟩
theorem VRs.nil {g : Gh} : VRs g [] [] := rfl

noncomputable abbrev wireEs (h1 : Int) (t1 : Tok) (v1 : Value) (h2 : Int) (t2 : Tok) (v2 : Value) : List DictEntry := [⟨h1, .str (Str.ofString "data") t1, v1⟩, ⟨h2, .str (Str.ofString "at") t2, v2⟩]
noncomputable abbrev excEs (h1 : Int) (t1 : Tok) (v1 : Value) (h2 : Int) (t2 : Tok) (v2 : Value) : List DictEntry := [⟨h1, .str (Str.ofString "what") t1, v1⟩, ⟨h2, .str (Str.ofString "at") t2, v2⟩]

noncomputable def Gh.bare (g : Gh) : Gh := ⟨g.frz, fun _ => none⟩
theorem Gh.bare_le (g : Gh) : g.bare.le g := ⟨fun _ _ e => e, fun _ _ e => nomatch e⟩
theorem Gh.bare_mono {g g' : Gh} (k : g.le g') : g.bare.le g'.bare := ⟨k.1, fun _ _ e => nomatch e⟩

noncomputable def TR (g : Gh) (h : Heap) (a : Addr) : TO → Prop
  | .list vs => ∃ items n, h.get? a = some (lstObj items n) ∧ VRs g.bare vs items.toList
  | .wire d i => ∃ h1 t1 t1' h2 t2 t2' n, h.get? a = some (dictOf (wireEs h1 t1 (.bytes d.toArray t1') h2 t2 (.int i t2')) n)
  | .barr b => h.get? a = some { cls := .type "bytearray", data := .bytearray b.toArray 0 }
  | .exc C i b => ∃ dx vs sl h1 t1 v1 h2 t2 t2' n, h.get? a = some { cls := .ref C, dict := some dx, data := .fields vs, slots := sl } ∧ g.frz dx = some (dictOf (excEs h1 t1 v1 h2 t2 (.int i t2')) n) ∧ b.says vs

theorem TR.mono {g g' : Gh} {h h' : Heap} {a : Addr} (k : g.le g') (kh : ∀ o, h.get? a = some o → h'.get? a = some o) {t : TO} (x : TR g h a t) : TR g' h' a t := by
  cases t
  · obtain ⟨items, n, e, r⟩ := x; exact ⟨items, n, kh _ e, r.mono (Gh.bare_mono k)⟩
  · obtain ⟨h1, t1, t1', h2, t2, t2', n, e⟩ := x; exact ⟨h1, t1, t1', h2, t2, t2', n, kh _ e⟩
  · exact kh _ x
  · obtain ⟨dx, vs, sl, h1, t1, v1, h2, t2, t2', n, e, f, z⟩ := x; exact ⟨dx, vs, sl, h1, t1, v1, h2, t2, t2', n, kh _ e, k.1 _ _ f, z⟩

noncomputable def frmP (m : Str → Option Value) (o : Obj) : Prop := ∃ es ep, o.data = .dict es ep ∧ StrKeys es ∧ ∀ name, nsFind es name = m name
theorem frmP.ns {h : Heap} {L : Addr} {m : Str → Option Value} (x : ∃ o, h.get? L = some o ∧ frmP m o) : h.Ns L m := let ⟨o, ho, es, ep, r⟩ := x; ⟨o, es, ep, ho, r⟩
theorem frmP.of {h : Heap} {L : Addr} {m : Str → Option Value} (x : h.Ns L m) : ∃ o, h.get? L = some o ∧ frmP m o := let ⟨o, es, ep, ho, r⟩ := x; ⟨o, ho, es, ep, r⟩
noncomputable def justP (o : Obj) (o' : Obj) : Prop := o' = o

noncomputable abbrev Fm := Addr × (Obj → Prop)

structure Inv (g₀ : Heap) (g : Gh) (fr : List Fm) (σ : List TO) (h : Heap) : Prop where
  base : ∀ b o, g₀.get? b = some o → g.frz b = some o
  fz : ∀ b o, g.frz b = some o → h.get? b = some o
  fs : ∀ p ∈ fr, (∃ o, h.get? p.1 = some o ∧ p.2 o) ∧ g.frz p.1 = none ∧ g₀.objs.size ≤ p.1
  nd : (fr.map (·.1)).Nodup
  so : ∀ i t, σ[i]? = some t → ∃ a, g.loc i = some a ∧ TR g h a t
  lo : ∀ i a, g.loc i = some a → i < σ.length ∧ g.frz a = none ∧ a ∉ fr.map (·.1) ∧ g₀.objs.size ≤ a
  inj : ∀ i j a, g.loc i = some a → g.loc j = some a → i = j

noncomputable def Gh.mut (g : Gh) (fr : List Fm) (a : Addr) : Prop := a ∈ fr.map (·.1) ∨ ∃ i, g.loc i = some a

open Classical in
noncomputable def Gh.grown (g : Gh) (fr : List Fm) (h : Heap) : Gh := ⟨fun b => if g.mut fr b then none else h.get? b, g.loc⟩

theorem TR.some {g : Gh} {h : Heap} {a : Addr} {t : TO} (x : TR g h a t) : ∃ o, h.get? a = some o := by
  cases t
  · obtain ⟨_, _, e, _⟩ := x; exact ⟨_, e⟩
  · obtain ⟨_, _, _, _, _, _, _, e⟩ := x; exact ⟨_, e⟩
  · exact ⟨_, x⟩
  · obtain ⟨_, _, _, _, _, _, _, _, _, _, e, _⟩ := x; exact ⟨_, e⟩

section
variable {g₀ : Heap} {g g' : Gh} {fr : List Fm} {σ : List TO} {h h' : Heap}

theorem Inv.mut_none (I : Inv g₀ g fr σ h) {b : Addr} (m : g.mut fr b) : g.frz b = none := by
  rcases m with m | ⟨i, e⟩
  · obtain ⟨p, hp, e⟩ := List.mem_map.mp m
    exact e ▸ (I.fs p hp).2.1
  · exact (I.lo i b e).2.1
theorem Inv.mut_here (I : Inv g₀ g fr σ h) {b : Addr} (m : g.mut fr b) : ∃ o, h.get? b = some o := by
  rcases m with m | ⟨i, e⟩
  · obtain ⟨p, hp, e⟩ := List.mem_map.mp m
    obtain ⟨o, ho, _⟩ := (I.fs p hp).1
    exact ⟨o, e ▸ ho⟩
  · obtain ⟨hi, _⟩ := I.lo i b e
    obtain ⟨a, e', r⟩ := I.so i σ[i] (List.getElem?_eq_getElem hi)
    rw [e] at e'
    cases e'
    exact r.some

theorem Inv.grown_le (I : Inv g₀ g fr σ h) (k : ∀ b o, h.get? b = some o → h'.get? b = some o) : g.le (g.grown fr h') := by
  refine ⟨fun b o e => ?_, fun _ _ e => e⟩
  have : ¬ g.mut fr b := fun m => by rw [I.mut_none m] at e; cases e
  simp only [Gh.grown, this, if_false]
  exact k b o (I.fz b o e)

theorem Inv.grow (I : Inv g₀ g fr σ h) (k : ∀ b o, h.get? b = some o → h'.get? b = some o) : Inv g₀ (g.grown fr h') fr σ h' where
  base := fun b o e => (I.grown_le k).1 b o (I.base b o e)
  fz := fun b o e => by
    simp only [Gh.grown] at e
    split at e
    · cases e
    · exact e
  fs := fun p hp => ⟨let ⟨o, ho, q⟩ := (I.fs p hp).1; ⟨o, k _ _ ho, q⟩, by simp [Gh.grown, Gh.mut, List.mem_map_of_mem hp], (I.fs p hp).2.2⟩
  nd := I.nd
  so := fun i t e => let ⟨a, l, r⟩ := I.so i t e; ⟨a, l, r.mono (I.grown_le k) fun o q => k _ _ q⟩
  lo := fun i a l => ⟨(I.lo i a l).1, by
    have : g.mut fr a := .inr ⟨i, l⟩
    simp [Gh.grown, this], (I.lo i a l).2.2⟩
  inj := I.inj
theorem Inv.grown_new (I : Inv g₀ g fr σ h) {b : Addr} {o : Obj} (e : h'.get? b = some o) (hn : h.get? b = none) : (g.grown fr h').frz b = some o := by
  have : ¬ g.mut fr b := fun m => by
    obtain ⟨o', q⟩ := I.mut_here m
    rw [hn] at q; cases q
  simp only [Gh.grown, this, if_false]
  exact e

theorem Inv.store {L : Addr} {m m' : Obj → Prop} (I : Inv g₀ g ((L, m) :: fr) σ h) (hn : ∃ o, h'.get? L = some o ∧ m' o) (hs : Heap.SameBut L h h') : Inv g₀ g ((L, m') :: fr) σ h' where
  base := I.base
  fz := fun b o e => (hs.2 b (fun q => by rw [q, (I.fs (L, m) (.head _)).2.1] at e; cases e)).trans (I.fz b o e)
  fs := fun p hp => by
    rcases List.mem_cons.mp hp with rfl | hp
    · exact ⟨hn, (I.fs (L, m) (.head _)).2⟩
    · have nd := I.nd
      rw [List.map_cons, List.nodup_cons] at nd
      obtain ⟨⟨o, ho, q⟩, r⟩ := I.fs p (.tail _ hp)
      exact ⟨⟨o, (hs.2 _ fun q => nd.1 (List.mem_map.mpr ⟨p, hp, q⟩)).trans ho, q⟩, r⟩
  nd := I.nd
  so := fun i t e => by
    obtain ⟨a, l, r⟩ := I.so i t e
    refine ⟨a, l, r.mono (Gh.le.refl g) fun o q => (hs.2 a fun z => ?_).trans q⟩
    exact (I.lo i a l).2.2.1 (by rw [z]; exact List.mem_cons_self)
  lo := I.lo
  inj := I.inj

theorem Inv.set {i : Nat} {a : Addr} {t : TO} (I : Inv g₀ g fr σ h) (l : g.loc i = some a) (hs : Heap.SameBut a h h') (r : TR g h' a t) : Inv g₀ g fr (σ.set i t) h' where
  base := I.base
  fz := fun b o e => (hs.2 b (fun q => by rw [q, (I.lo i a l).2.1] at e; cases e)).trans (I.fz b o e)
  fs := fun p hp => by
    obtain ⟨⟨o, ho, q⟩, r⟩ := I.fs p hp
    exact ⟨⟨o, (hs.2 _ fun q => (I.lo i a l).2.2.1 (List.mem_map.mpr ⟨p, hp, q⟩)).trans ho, q⟩, r⟩
  nd := I.nd
  so := fun j u e => by
    rw [List.getElem?_set] at e
    by_cases hij : i = j
    · subst hij
      rw [if_pos rfl, if_pos (I.lo i a l).1] at e
      cases e
      exact ⟨a, l, r⟩
    · rw [if_neg hij] at e
      obtain ⟨b, l', r'⟩ := I.so j u e
      refine ⟨b, l', r'.mono (Gh.le.refl g) fun o q => (hs.2 b fun z => hij ?_).trans q⟩
      exact I.inj i j a l (z ▸ l')
  lo := fun j b q => by rw [List.length_set]; exact I.lo j b q
  inj := I.inj

open Classical in
noncomputable def Gh.track (g : Gh) (n : Nat) (a : Addr) : Gh := ⟨fun b => if b = a then none else g.frz b, fun i => if i = n then some a else g.loc i⟩

theorem Inv.track {a : Addr} {t : TO} (I : Inv g₀ g fr σ h) (k : ∀ b o, h.get? b = some o → h'.get? b = some o) (hn : h.get? a = none) (hz : g₀.objs.size ≤ a)
    (r : TR ((g.grown fr h').track σ.length a) h' a t) : g.le ((g.grown fr h').track σ.length a) ∧ Inv g₀ ((g.grown fr h').track σ.length a) fr (σ ++ [t]) h' := by
  have J := I.grow k
  have na : ¬ g.mut fr a := fun m => by obtain ⟨o, q⟩ := I.mut_here m; rw [hn] at q; cases q
  have le : g.le ((g.grown fr h').track σ.length a) := by
    refine ⟨fun b o e => ?_, fun i b l => ?_⟩
    · have : b ≠ a := fun q => by rw [q] at e; rw [I.fz a o e] at hn; cases hn
      simp only [Gh.track, this, if_false]
      exact (I.grown_le k).1 b o e
    · have : i ≠ σ.length := Nat.ne_of_lt (I.lo i b l).1
      simp only [Gh.track, this, if_false]
      exact l
  refine ⟨le, ?_, fun b o e => ?_, fun p hp => ?_, I.nd, fun i u e => ?_, fun i b l => ?_, fun i j b l l' => ?_⟩
  · exact fun b o e => le.1 b o (I.base b o e)
  · simp only [Gh.track] at e
    split at e
    · cases e
    · exact J.fz b o e
  · refine ⟨(J.fs p hp).1, ?_, (J.fs p hp).2.2⟩
    simp only [Gh.track]
    split
    · rfl
    · exact (J.fs p hp).2.1
  · rw [List.getElem?_append] at e
    split at e
    · rename_i hi
      obtain ⟨b, l, q⟩ := I.so i u e
      exact ⟨b, le.2 i b l, q.mono le fun o z => k _ _ z⟩
    · rename_i hi
      have : i = σ.length := by
        rcases Nat.lt_or_ge (i - σ.length) 1 with z | z
        · exact Nat.le_antisymm (Nat.sub_eq_zero_iff_le.mp (Nat.lt_one_iff.mp z)) (Nat.le_of_not_lt hi)
        · rw [List.getElem?_eq_none (by simpa using z)] at e; cases e
      subst this
      simp only [Nat.sub_self, List.getElem?_cons_zero, Option.some.injEq] at e
      subst e
      exact ⟨a, by simp [Gh.track], r⟩
  · simp only [Gh.track] at l
    rw [List.length_append]
    split at l
    · rename_i hi
      cases l
      refine ⟨by subst hi; simp, by simp [Gh.track], fun m => na (.inl m), hz⟩
    · obtain ⟨x1, x2, x3⟩ := J.lo i b l
      refine ⟨Nat.lt_of_lt_of_le x1 (Nat.le_add_right _ _), ?_, x3⟩
      simp only [Gh.track]
      split
      · rfl
      · exact x2
  · simp only [Gh.track] at l l'
    split at l <;> split at l'
    · rename_i p q; rw [p, q]
    · cases l; exact (na (.inr ⟨j, l'⟩)).elim
    · cases l'; exact (na (.inr ⟨i, l⟩)).elim
    · exact I.inj i j b l l'

theorem Inv.push {L : Addr} {m : Obj → Prop} (I : Inv g₀ g fr σ h) (k : ∀ b o, h.get? b = some o → h'.get? b = some o) (hn : h.get? L = none) (hz : g₀.objs.size ≤ L) (ns : ∃ o, h'.get? L = some o ∧ m o) : Inv g₀ g ((L, m) :: fr) σ h' where
  base := I.base
  fz := fun b o e => k _ _ (I.fz b o e)
  fs := fun p hp => by
    rcases List.mem_cons.mp hp with rfl | hp
    · refine ⟨ns, ?_, hz⟩
      cases q : g.frz L with
      | none => rfl
      | some o => rw [I.fz L o q] at hn; cases hn
    · obtain ⟨⟨o, ho, q⟩, r⟩ := I.fs p hp
      exact ⟨⟨o, k _ _ ho, q⟩, r⟩
  nd := by
    rw [List.map_cons, List.nodup_cons]
    refine ⟨fun m => ?_, I.nd⟩
    obtain ⟨p, hp, e⟩ := List.mem_map.mp m
    obtain ⟨o, ho, _⟩ := (I.fs p hp).1
    have e' : p.1 = L := e
    rw [e', hn] at ho; cases ho
  so := fun i t e => let ⟨a, l, r⟩ := I.so i t e; ⟨a, l, r.mono (Gh.le.refl g) fun o q => k _ _ q⟩
  lo := fun i a l => by
    obtain ⟨x1, x2, x3, x4⟩ := I.lo i a l
    refine ⟨x1, x2, fun m => ?_, x4⟩
    rcases List.mem_cons.mp m with q | m
    · obtain ⟨o, z⟩ := I.mut_here (.inr ⟨i, l⟩)
      have q' : a = L := q
      rw [q', hn] at z; cases z
    · exact x3 m
  inj := I.inj

theorem Inv.pop0 {p : Fm} (I : Inv g₀ g (p :: fr) σ h) : Inv g₀ g fr σ h where
  base := I.base
  fz := I.fz
  fs := fun q hq => I.fs q (.tail _ hq)
  nd := (List.nodup_cons.mp I.nd).2
  so := I.so
  lo := fun i a l => let ⟨x1, x2, x3, x4⟩ := I.lo i a l; ⟨x1, x2, fun m => x3 (.tail _ m), x4⟩
  inj := I.inj
theorem Inv.pop {p : Fm} {σ₁ : List TO} {g₁ : Gh} {h₁ : Heap} (I : Inv g₀ g (p :: fr) σ h) (I₁ : Inv g₀ g₁ fr σ₁ h₁) (le : g₁.le g) (hl : σ₁.length ≤ σ.length) :
    g₁.le ⟨g.frz, g₁.loc⟩ ∧ Inv g₀ ⟨g.frz, g₁.loc⟩ fr (σ.take σ₁.length) h := by
  refine ⟨⟨le.1, fun _ _ e => e⟩, I.base, I.fz, fun q hq => I.fs q (.tail _ hq), (List.nodup_cons.mp I.nd).2, fun i t e => ?_, fun i a l => ?_, I₁.inj⟩
  · have hi : i < σ₁.length := by
      rcases Nat.lt_or_ge i σ₁.length with z | z
      · exact z
      · rw [List.getElem?_eq_none (by rw [List.length_take]; exact Nat.le_trans (Nat.min_le_left _ _) z)] at e; cases e
    rw [List.getElem?_take, if_pos hi] at e
    obtain ⟨a, l, r⟩ := I.so i t e
    obtain ⟨a', l', _⟩ := I₁.so i _ (List.getElem?_eq_getElem hi)
    rw [le.2 i a' l'] at l
    cases l
    exact ⟨_, l', by cases t <;> exact r⟩
  · have x := I₁.lo i a l
    have y := I.lo i a (le.2 i a l)
    exact ⟨by rw [List.length_take]; exact Nat.lt_min.mpr ⟨x.1, y.1⟩, y.2.1, x.2.2.1, x.2.2.2⟩
end

mutual
noncomputable def AV.free : AV → Bool
  | .none | .bool _ | .int _ | .str _ | .bytes _ | .val _ => true
  | .loc _ | .wire _ => false
  | .tup vs => AV.frees vs
  | .fl vs => AV.frees vs
noncomputable def AV.frees : List AV → Bool
  | [] => true
  | a :: as => a.free && AV.frees as
end
mutual
theorem VR.bare {g : Gh} : ∀ {a : AV} {v : Value}, a.free = true → VR g a v → VR g.bare a v
  | .none, _, _, h => h
  | .bool _, _, _, h => h
  | .int _, _, _, h => h
  | .str _, _, _, h => h
  | .bytes _, _, _, h => h
  | .tup vs, _, f, x => by obtain ⟨a, items, n, e, z, r⟩ := x; exact ⟨a, items, n, e, z, VRs.bare (vs := items.toList) f r⟩
  | .val _, _, _, h => h
  | .loc _, _, f, _ => nomatch f
  | .wire _, _, f, _ => nomatch f
  | .fl vs, _, f, x => by obtain ⟨a, o, items, n, e, z, h1, h2, r⟩ := x; exact ⟨a, o, items, n, e, z, h1, h2, VRs.bare (vs := items.toList) f r⟩
theorem VRs.bare {g : Gh} : ∀ {as : List AV} {vs : List Value}, AV.frees as = true → VRs g as vs → VRs g.bare as vs
  | [], _, _, h => h
  | _ :: _, _, f, ⟨v, vs', e, h, r⟩ => by
    rw [AV.frees, Bool.and_eq_true] at f
    exact ⟨v, vs', e, VR.bare f.1 h, VRs.bare f.2 r⟩
end
end Mine
end

section
open PySem PySem.W PyProof.Rows
set_option maxRecDepth 100000
set_option genInjectivity false
namespace Mine

inductive BK | add | sub | mul | mod | div
inductive CK | eq | ne | lt | le | gt | ge | is | inn | nin
inductive MK
  | split | lower | upper | pop | index | append | join
  | own (name : Str) (f : Addr)

inductive IE where
  | const (v : AV)
  | var (k : Nat)
  | not (e : IE)
  | and (es : List IE)
  | or (es : List IE)
  | ite (c a b : IE)
  | bin (k : BK) (a b : IE)
  | cmp (k : CK) (a b : IE)
  | cmp2 (k₁ k₂ : CK) (a b c : IE)
  | call (f : IE) (as : List IE)
  | meth (k : MK) (o : IE) (as : List IE)
  | at (o : IE)
  | data (o : IE)
  | sub (o i : IE)
  | slice (o : IE) (lo hi : Option IE)
  | tup (es : List IE)
  | list (es : List IE)
  | comp (iter elt : IE) (test : Option IE)

inductive HS where
  | asgAt (k j : Nat)
  | asgNone (k : Nat)
  | raise (C : Addr) (msg : List Nat) (j : Nat)

inductive IS where
  | asg (k : Nat) (e : IE)
  | asgC (k : Nat) (it el : IE) (t : Option IE)
  | asgAt (o e : IE)
  | asgT (ks : List Nat) (es : List IE)
  | expr (e : IE)
  | ret (e : IE)
  | ite (c : IE) (a b : List IS)
  | whil (c : IE) (b : List IS)
  | forr (ks : List Nat) (iter : IE) (b : List IS)
  | forRange (k : Nat) (hi : IE) (b : List IS)
  | raise (e : IE)
  | tryx (b : List IS) (hs : List (Addr × Option Nat × HS))

structure Fn where
  np : Nat
  nl : Nat
  body : List IS

noncomputable def toAV : Value → AV
  | .none => .none
  | .bool b => .bool b
  | .int i _ => .int i
  | .str s _ => .str s.cps.toList
  | .bytes b _ => .bytes b.toList
  | v => .val v

section compile
variable (K : Frag)

noncomputable def globV (id : Str) : Option Value := match nsIn K mainGlobals id with
  | some (some v) => some v
  | some none => if id = Str.ofString "__name__" then none else bootBuiltins id
  | none => none

noncomputable def cBin : Operator → Option BK
  | .Add => some .add
  | .Sub => some .sub
  | .Mult => some .mul
  | .Mod => some .mod
  | .FloorDiv => some .div
  | _ => none
noncomputable def cCmp : CmpOp → Option CK
  | .Eq => some .eq
  | .NotEq => some .ne
  | .Lt => some .lt
  | .LtE => some .le
  | .Gt => some .gt
  | .GtE => some .ge
  | .Is => some .is
  | .In => some .inn
  | .NotIn => some .nin
  | _ => none
noncomputable def cConst : Const → Option AV
  | .none => some .none
  | .bool b => some (.bool b)
  | .int i => some (.int i)
  | .str s => some (.str s.cps.toList)
  | .bytes b => some (.bytes b)
  | _ => none
noncomputable def wireM (name : Str) : Option Addr := match findIn K (.ref wireC) name with
  | some (some (.ref f)) => if (plainGet K wireC name && isFn K (.ref f) && name != Str.ofString "data" && name != Str.ofString "at") = true then some f else none
  | _ => none
noncomputable def cMeth (name : Str) : Option MK :=
  if name = Str.ofString "split" then some .split
  else if name = Str.ofString "lower" then some .lower
  else if name = Str.ofString "upper" then some .upper
  else if name = Str.ofString "pop" then some .pop
  else if name = Str.ofString "index" then some .index
  else if name = Str.ofString "append" then some .append
  else if name = Str.ofString "join" then some .join
  else (wireM K name).map (.own name)

end compile
noncomputable def plainBase : Expr → Bool
  | .Call .. => false
  | _ => true
noncomputable def isName : Expr → Bool
  | .Name .. => true
  | _ => false
noncomputable def isComp : Expr → Bool
  | .ListComp .. => true
  | _ => false
noncomputable def compOk (sc : Scope) (x : Str) : Bool := sc.kind == .function && sc.names.all (fun y => y.2 != .free && y.2 != .cell && (y.2 != .local || sc.names.lookup y.1 == some .local)) && sc.names.lookup x == some .local

noncomputable def locIx (locs : List Str) (sc : Scope) (x : Str) : Option Nat := match sc.names.lookup x with
  | some .local => locs.findIdx? (· == x)
  | _ => none
noncomputable def noDbg (x : Str) : Bool := !(x == Str.ofString "__debug__")
theorem noDbg_ne {x : Str} (h : noDbg x = true) : x ≠ Str.ofString "__debug__" := by
  rintro rfl
  unfold noDbg at h
  rw [beq_self_eq_true] at h
  cases h

inductive All2 {α β : Type} (R : α → β → Prop) : List α → List β → Prop
  | nil : All2 R [] []
  | cons {a : α} {as : List α} {b : β} {bs : List β} : R a b → All2 R as bs → All2 R (a :: as) (b :: bs)
inductive Opt2 {α β : Type} (R : α → β → Prop) : Option α → Option β → Prop
  | none : Opt2 R none none
  | some {a : α} {b : β} : R a b → Opt2 R (some a) (some b)
theorem All2.mono {α β : Type} {R R' : α → β → Prop} {l : List α} {l' : List β} (h : All2 R l l') (k : ∀ a b, R a b → R' a b) : All2 R' l l' := by
  induction h with
  | nil => exact .nil
  | cons x _ ih => exact .cons (k _ _ x) ih
theorem Opt2.mono {α β : Type} {R R' : α → β → Prop} {l : Option α} {l' : Option β} (h : Opt2 R l l') (k : ∀ a b, R a b → R' a b) : Opt2 R' l l' := by
  cases h with
  | none => exact .none
  | some x => exact .some (k _ _ x)
inductive CE1 (K : Frag) (R : List Str → Scope → Expr → IE → Prop) : List Str → Scope → Expr → IE → Prop
  | const {locs : List Str} {sc : Scope} {c : Const} {k : Nat} {p : Pos} {v : AV} : cConst c = some v → CE1 K R locs sc (.Constant c k p) (.const v)
  | var {locs : List Str} {sc : Scope} {id : Str} {p : Pos} {k : Nat} : noDbg id = true → locIx locs sc id = some k → CE1 K R locs sc (.Name id p) (.var k)
  | glob {locs : List Str} {sc : Scope} {id : Str} {p : Pos} {v : Value} : noDbg id = true → sc.names.lookup id = some .globalImplicit → globV K id = some v → CE1 K R locs sc (.Name id p) (.const (toAV v))
  | andE {locs : List Str} {sc : Scope} {e : Expr} {es : List Expr} {ies : List IE} {p : Pos} : All2 (R locs sc) (e :: es) ies → CE1 K R locs sc (.BoolOp .And (e :: es) p) (.and ies)
  | orE {locs : List Str} {sc : Scope} {e : Expr} {es : List Expr} {ies : List IE} {p : Pos} : All2 (R locs sc) (e :: es) ies → CE1 K R locs sc (.BoolOp .Or (e :: es) p) (.or ies)
  | notE {locs : List Str} {sc : Scope} {x : Expr} {ix : IE} {p : Pos} : R locs sc x ix → CE1 K R locs sc (.UnaryOp .Not x p) (.not ix)
  | neg {locs : List Str} {sc : Scope} {i : Int} {k : Nat} {q p : Pos} : CE1 K R locs sc (.UnaryOp .USub (.Constant (.int i) k q) p) (.const (.int (-i)))
  | ite {locs : List Str} {sc : Scope} {c a b : Expr} {ic ia ib : IE} {p : Pos} : R locs sc c ic → R locs sc a ia → R locs sc b ib → CE1 K R locs sc (.IfExp c a b p) (.ite ic ia ib)
  | bin {locs : List Str} {sc : Scope} {l r : Expr} {op : Operator} {k : BK} {ia ib : IE} {p : Pos} : cBin op = some k → R locs sc l ia → R locs sc r ib → CE1 K R locs sc (.BinOp l op r p) (.bin k ia ib)
  | cmp {locs : List Str} {sc : Scope} {l r : Expr} {op : CmpOp} {k : CK} {ia ib : IE} {p : Pos} : cCmp op = some k → R locs sc l ia → R locs sc r ib → CE1 K R locs sc (.Compare l [op] [r] p) (.cmp k ia ib)
  | cmp2 {locs : List Str} {sc : Scope} {l r r' : Expr} {op op' : CmpOp} {k k' : CK} {ia ib ic : IE} {p : Pos} : cCmp op = some k → cCmp op' = some k' → R locs sc l ia → R locs sc r ib → R locs sc r' ic → CE1 K R locs sc (.Compare l [op, op'] [r, r'] p) (.cmp2 k k' ia ib ic)
  | meth {locs : List Str} {sc : Scope} {o : Expr} {name : Str} {apos pos : Pos} {as : List Expr} {k : MK} {io : IE} {ias : List IE} : (plainBase o && decide (as.length < 29) && (apos.endLine == pos.line)) = true → cMeth K name = some k → R locs sc o io → All2 (R locs sc) as ias → CE1 K R locs sc (.Call (.Attribute o name apos) as [] pos) (.meth k io ias)
  | call {locs : List Str} {sc : Scope} {f : Str} {np pos : Pos} {as : List Expr} {jf : IE} {ias : List IE} : R locs sc (.Name f np) jf → All2 (R locs sc) as ias → CE1 K R locs sc (.Call (.Name f np) as [] pos) (.call jf ias)
  | atA {locs : List Str} {sc : Scope} {o : Expr} {p : Pos} {io : IE} : isName o = true → R locs sc o io → CE1 K R locs sc (.Attribute o (Str.ofString "at") p) (.at io)
  | data {locs : List Str} {sc : Scope} {o : Expr} {p : Pos} {io : IE} : isName o = true → R locs sc o io → CE1 K R locs sc (.Attribute o (Str.ofString "data") p) (.data io)
  | slice {locs : List Str} {sc : Scope} {o : Expr} {lo hi : Option Expr} {q p : Pos} {io : IE} {il ih : Option IE} : R locs sc o io → Opt2 (R locs sc) lo il → Opt2 (R locs sc) hi ih → CE1 K R locs sc (.Subscript o (.Slice lo hi none q) p) (.slice io il ih)
  | sub {locs : List Str} {sc : Scope} {o i : Expr} {p : Pos} {io ii : IE} : R locs sc o io → R locs sc i ii → CE1 K R locs sc (.Subscript o i p) (.sub io ii)
  | tup {locs : List Str} {sc : Scope} {es : List Expr} {k : Nat} {p : Pos} {ies : List IE} : All2 (R locs sc) es ies → CE1 K R locs sc (.Tuple es k p) (.tup ies)
  | list {locs : List Str} {sc : Scope} {es : List Expr} {p : Pos} {ies : List IE} : All2 (R locs sc) es ies → CE1 K R locs sc (.List es p) (.list ies)
  | comp {locs : List Str} {sc csc : Scope} {elt iter : Expr} {x : Str} {px p : Pos} {ii iel : IE} : compOk csc x = true → R locs sc iter ii → R [x] csc elt iel → CE1 K R locs sc (.ListComp elt [⟨.Name x px, iter, [], 0⟩] csc p) (.comp ii iel none)
  | compT {locs : List Str} {sc csc : Scope} {elt iter t : Expr} {x : Str} {px p : Pos} {ii iel it : IE} : compOk csc x = true → R locs sc iter ii → R [x] csc elt iel → R [x] csc t it → CE1 K R locs sc (.ListComp elt [⟨.Name x px, iter, [t], 0⟩] csc p) (.comp ii iel (some it))
theorem CE1.mono {K : Frag} {R R' : List Str → Scope → Expr → IE → Prop} (k : ∀ l s e i, R l s e i → R' l s e i) {locs : List Str} {sc : Scope} {e : Expr} {i : IE} (h : CE1 K R locs sc e i) : CE1 K R' locs sc e i := by
  cases h with
  | const h0 => exact .const h0
  | var h0 h1 => exact .var h0 h1
  | glob h0 h1 h2 => exact .glob h0 h1 h2
  | andE h0 => exact .andE (h0.mono fun _ _ => k _ _ _ _)
  | orE h0 => exact .orE (h0.mono fun _ _ => k _ _ _ _)
  | notE h0 => exact .notE (k _ _ _ _ h0)
  | neg => exact .neg 
  | ite h0 h1 h2 => exact .ite (k _ _ _ _ h0) (k _ _ _ _ h1) (k _ _ _ _ h2)
  | bin h0 h1 h2 => exact .bin h0 (k _ _ _ _ h1) (k _ _ _ _ h2)
  | cmp h0 h1 h2 => exact .cmp h0 (k _ _ _ _ h1) (k _ _ _ _ h2)
  | cmp2 h0 h1 h2 h3 h4 => exact .cmp2 h0 h1 (k _ _ _ _ h2) (k _ _ _ _ h3) (k _ _ _ _ h4)
  | meth h0 h1 h2 h3 => exact .meth h0 h1 (k _ _ _ _ h2) (h3.mono fun _ _ => k _ _ _ _)
  | call h0 h1 => exact .call (k _ _ _ _ h0) (h1.mono fun _ _ => k _ _ _ _)
  | atA h0 h1 => exact .atA h0 (k _ _ _ _ h1)
  | data h0 h1 => exact .data h0 (k _ _ _ _ h1)
  | slice h0 h1 h2 => exact .slice (k _ _ _ _ h0) (h1.mono fun _ _ => k _ _ _ _) (h2.mono fun _ _ => k _ _ _ _)
  | sub h0 h1 => exact .sub (k _ _ _ _ h0) (k _ _ _ _ h1)
  | tup h0 => exact .tup (h0.mono fun _ _ => k _ _ _ _)
  | list h0 => exact .list (h0.mono fun _ _ => k _ _ _ _)
  | comp h0 h1 h2 => exact .comp h0 (k _ _ _ _ h1) (k _ _ _ _ h2)
  | compT h0 h1 h2 h3 => exact .compT h0 (k _ _ _ _ h1) (k _ _ _ _ h2) (k _ _ _ _ h3)
noncomputable def CE (K : Frag) (locs : List Str) (sc : Scope) (e : Expr) (i : IE) : Prop := ∃ R : List Str → Scope → Expr → IE → Prop, (∀ l s e i, R l s e i → CE1 K R l s e i) ∧ R locs sc e i
theorem CE.out {K : Frag} {locs : List Str} {sc : Scope} {e : Expr} {i : IE} (h : CE K locs sc e i) : CE1 K (CE K) locs sc e i := let ⟨_, k, r⟩ := h; (k _ _ _ _ r).mono fun _ _ _ _ r => ⟨_, k, r⟩
theorem CE.mk {K : Frag} {locs : List Str} {sc : Scope} {e : Expr} {i : IE} (h : CE1 K (CE K) locs sc e i) : CE K locs sc e i := ⟨CE1 K (CE K), fun _ _ _ _ h => h.mono fun _ _ _ _ x => x.out, h⟩
noncomputable abbrev CEs (K : Frag) (locs : List Str) (sc : Scope) : List Expr → List IE → Prop := All2 (CE K locs sc)
noncomputable abbrev CO (K : Frag) (locs : List Str) (sc : Scope) : Option Expr → Option IE → Prop := Opt2 (CE K locs sc)
theorem CE.const {K : Frag} {locs : List Str} {sc : Scope} {c : Const} {k : Nat} {p : Pos} {v : AV} : cConst c = some v → CE K locs sc (.Constant c k p) (.const v) := fun h0 => .mk (.const h0)
theorem CE.var {K : Frag} {locs : List Str} {sc : Scope} {id : Str} {p : Pos} {k : Nat} : noDbg id = true → locIx locs sc id = some k → CE K locs sc (.Name id p) (.var k) := fun h0 h1 => .mk (.var h0 h1)
theorem CE.glob {K : Frag} {locs : List Str} {sc : Scope} {id : Str} {p : Pos} {v : Value} : noDbg id = true → sc.names.lookup id = some .globalImplicit → globV K id = some v → CE K locs sc (.Name id p) (.const (toAV v)) := fun h0 h1 h2 => .mk (.glob h0 h1 h2)
theorem CE.andE {K : Frag} {locs : List Str} {sc : Scope} {e : Expr} {es : List Expr} {ies : List IE} {p : Pos} : CEs K locs sc (e :: es) ies → CE K locs sc (.BoolOp .And (e :: es) p) (.and ies) := fun h0 => .mk (.andE h0)
theorem CE.orE {K : Frag} {locs : List Str} {sc : Scope} {e : Expr} {es : List Expr} {ies : List IE} {p : Pos} : CEs K locs sc (e :: es) ies → CE K locs sc (.BoolOp .Or (e :: es) p) (.or ies) := fun h0 => .mk (.orE h0)
theorem CE.notE {K : Frag} {locs : List Str} {sc : Scope} {x : Expr} {ix : IE} {p : Pos} : CE K locs sc x ix → CE K locs sc (.UnaryOp .Not x p) (.not ix) := fun h0 => .mk (.notE h0)
theorem CE.neg {K : Frag} {locs : List Str} {sc : Scope} {i : Int} {k : Nat} {q p : Pos} : CE K locs sc (.UnaryOp .USub (.Constant (.int i) k q) p) (.const (.int (-i))) := .mk (.neg )
theorem CE.ite {K : Frag} {locs : List Str} {sc : Scope} {c a b : Expr} {ic ia ib : IE} {p : Pos} : CE K locs sc c ic → CE K locs sc a ia → CE K locs sc b ib → CE K locs sc (.IfExp c a b p) (.ite ic ia ib) := fun h0 h1 h2 => .mk (.ite h0 h1 h2)
theorem CE.bin {K : Frag} {locs : List Str} {sc : Scope} {l r : Expr} {op : Operator} {k : BK} {ia ib : IE} {p : Pos} : cBin op = some k → CE K locs sc l ia → CE K locs sc r ib → CE K locs sc (.BinOp l op r p) (.bin k ia ib) := fun h0 h1 h2 => .mk (.bin h0 h1 h2)
theorem CE.cmp {K : Frag} {locs : List Str} {sc : Scope} {l r : Expr} {op : CmpOp} {k : CK} {ia ib : IE} {p : Pos} : cCmp op = some k → CE K locs sc l ia → CE K locs sc r ib → CE K locs sc (.Compare l [op] [r] p) (.cmp k ia ib) := fun h0 h1 h2 => .mk (.cmp h0 h1 h2)
theorem CE.cmp2 {K : Frag} {locs : List Str} {sc : Scope} {l r r' : Expr} {op op' : CmpOp} {k k' : CK} {ia ib ic : IE} {p : Pos} : cCmp op = some k → cCmp op' = some k' → CE K locs sc l ia → CE K locs sc r ib → CE K locs sc r' ic → CE K locs sc (.Compare l [op, op'] [r, r'] p) (.cmp2 k k' ia ib ic) := fun h0 h1 h2 h3 h4 => .mk (.cmp2 h0 h1 h2 h3 h4)
theorem CE.meth {K : Frag} {locs : List Str} {sc : Scope} {o : Expr} {name : Str} {apos pos : Pos} {as : List Expr} {k : MK} {io : IE} {ias : List IE} : (plainBase o && decide (as.length < 29) && (apos.endLine == pos.line)) = true → cMeth K name = some k → CE K locs sc o io → CEs K locs sc as ias → CE K locs sc (.Call (.Attribute o name apos) as [] pos) (.meth k io ias) := fun h0 h1 h2 h3 => .mk (.meth h0 h1 h2 h3)
theorem CE.call {K : Frag} {locs : List Str} {sc : Scope} {f : Str} {np pos : Pos} {as : List Expr} {jf : IE} {ias : List IE} : CE K locs sc (.Name f np) jf → CEs K locs sc as ias → CE K locs sc (.Call (.Name f np) as [] pos) (.call jf ias) := fun h0 h1 => .mk (.call h0 h1)
theorem CE.atA {K : Frag} {locs : List Str} {sc : Scope} {o : Expr} {p : Pos} {io : IE} : isName o = true → CE K locs sc o io → CE K locs sc (.Attribute o (Str.ofString "at") p) (.at io) := fun h0 h1 => .mk (.atA h0 h1)
theorem CE.data {K : Frag} {locs : List Str} {sc : Scope} {o : Expr} {p : Pos} {io : IE} : isName o = true → CE K locs sc o io → CE K locs sc (.Attribute o (Str.ofString "data") p) (.data io) := fun h0 h1 => .mk (.data h0 h1)
theorem CE.slice {K : Frag} {locs : List Str} {sc : Scope} {o : Expr} {lo hi : Option Expr} {q p : Pos} {io : IE} {il ih : Option IE} : CE K locs sc o io → CO K locs sc lo il → CO K locs sc hi ih → CE K locs sc (.Subscript o (.Slice lo hi none q) p) (.slice io il ih) := fun h0 h1 h2 => .mk (.slice h0 h1 h2)
theorem CE.sub {K : Frag} {locs : List Str} {sc : Scope} {o i : Expr} {p : Pos} {io ii : IE} : CE K locs sc o io → CE K locs sc i ii → CE K locs sc (.Subscript o i p) (.sub io ii) := fun h0 h1 => .mk (.sub h0 h1)
theorem CE.tup {K : Frag} {locs : List Str} {sc : Scope} {es : List Expr} {k : Nat} {p : Pos} {ies : List IE} : CEs K locs sc es ies → CE K locs sc (.Tuple es k p) (.tup ies) := fun h0 => .mk (.tup h0)
theorem CE.list {K : Frag} {locs : List Str} {sc : Scope} {es : List Expr} {p : Pos} {ies : List IE} : CEs K locs sc es ies → CE K locs sc (.List es p) (.list ies) := fun h0 => .mk (.list h0)
theorem CE.comp {K : Frag} {locs : List Str} {sc csc : Scope} {elt iter : Expr} {x : Str} {px p : Pos} {ii iel : IE} : compOk csc x = true → CE K locs sc iter ii → CE K [x] csc elt iel → CE K locs sc (.ListComp elt [⟨.Name x px, iter, [], 0⟩] csc p) (.comp ii iel none) := fun h0 h1 h2 => .mk (.comp h0 h1 h2)
theorem CE.compT {K : Frag} {locs : List Str} {sc csc : Scope} {elt iter t : Expr} {x : Str} {px p : Pos} {ii iel it : IE} : compOk csc x = true → CE K locs sc iter ii → CE K [x] csc elt iel → CE K [x] csc t it → CE K locs sc (.ListComp elt [⟨.Name x px, iter, [t], 0⟩] csc p) (.comp ii iel (some it)) := fun h0 h1 h2 h3 => .mk (.compT h0 h1 h2 h3)
inductive CT (locs : List Str) (sc : Scope) : List Expr → List Nat → Prop
  | nil : CT locs sc [] []
  | cons {x : Str} {p : Pos} {ts : List Expr} {k : Nat} {ks : List Nat} : locIx locs sc x = some k → CT locs sc ts ks → CT locs sc (.Name x p :: ts) (k :: ks)
inductive CU (K : Frag) (locs : List Str) (sc : Scope) : Option Str → List Stmt → HS → Prop
  | atF {x y : Str} {p1 p2 p3 p4 : Pos} {k j : Nat} : noDbg y = true → locIx locs sc x = some k → locIx locs sc y = some j → CU K locs sc (some y) [.Assign [.Name x p1] (.Attribute (.Name y p2) (Str.ofString "at") p3) p4] (.asgAt k j)
  | none {f : Option Str} {x : Str} {p1 p2 p3 : Pos} {c k : Nat} : locIx locs sc x = some k → CU K locs sc f [.Assign [.Name x p1] (.Constant .none c p2) p3] (.asgNone k)
  | raise {f : Option Str} {C y msg : Str} {p1 p2 p3 p4 p5 : Pos} {k j : Nat} {c : Addr} : noDbg C = true → noDbg y = true → sc.names.lookup C = some .globalImplicit → globV K C = some (.ref c) → locIx locs sc y = some j →
      CU K locs sc f [.Raise (some (.Call (.Name C p1) [.Constant (.str msg) k p2, .Name y p3] [] p4)) none p5] (.raise c msg.cps.toList j)
inductive CN (locs : List Str) (sc : Scope) : Option Str → Option Nat → Prop
  | none : CN locs sc none none
  | some {x : Str} {k : Nat} : locIx locs sc x = some k → CN locs sc (some x) (some k)
inductive CH (K : Frag) (locs : List Str) (sc : Scope) : List ExceptHandler → List (Addr × Option Nat × HS) → Prop
  | nil : CH K locs sc [] []
  | cons {C : Str} {np pos : Pos} {name : Option Str} {body : List Stmt} {c : Addr} {k : Option Nat} {u : HS} {hs : List ExceptHandler} {ihs : List (Addr × Option Nat × HS)} : noDbg C = true → sc.names.lookup C = some .globalImplicit → globV K C = some (.ref c) → CN locs sc name k → CU K locs sc name body u → CH K locs sc hs ihs →
      CH K locs sc (.ExceptHandler (some (.Name C np)) name body pos :: hs) ((c, k, u) :: ihs)

noncomputable def swName (sc : Scope) (line : Nat) : Expr → Option Str
  | .Name id pos => if sc.names.lookup id == some .local && pos.line == line then some id else none
  | _ => none
noncomputable def swOk (sc : Scope) (ts es : List Expr) : Bool :=
  let names := ts.filterMap (swName sc ((ts.head?.map (·.pos.line)).getD 0))
  (ts.length == 2 || ts.length == 3) && es.length == ts.length && names.length == ts.length && names.eraseDups.length == names.length && !(es.all (foldedForSure 8)) && !(es.all (constantsAlone 8))
noncomputable def compFree (p q : Pos) (csc : Scope) (x : Str) : Bool := p.line == q.line && !(csc.names.any fun (n, k) => n == x && (k == .local || k == .cell))
inductive CS1 (K : Frag) (R : List Str → Scope → Stmt → IS → Prop) : List Str → Scope → Stmt → IS → Prop
  | asgC {locs : List Str} {sc csc : Scope} {x : Str} {p q pos : Pos} {elt : Expr} {gens : List Comprehension} {k : Nat} {it el : IE} {t : Option IE} : compFree p q csc x = true → locIx locs sc x = some k → CE K locs sc (.ListComp elt gens csc q) (.comp it el t) → CS1 K R locs sc (.Assign [.Name x p] (.ListComp elt gens csc q) pos) (.asgC k it el t)
  | asg {locs : List Str} {sc : Scope} {x : Str} {p pos : Pos} {e : Expr} {k : Nat} {ie : IE} : isComp e = false → locIx locs sc x = some k → CE K locs sc e ie → CS1 K R locs sc (.Assign [.Name x p] e pos) (.asg k ie)
  | asgAt {locs : List Str} {sc : Scope} {o e : Expr} {p pos : Pos} {io ie : IE} : CE K locs sc o io → CE K locs sc e ie → CS1 K R locs sc (.Assign [.Attribute o (Str.ofString "at") p] e pos) (.asgAt io ie)
  | asgT {locs : List Str} {sc : Scope} {ts es : List Expr} {k1 k2 : Nat} {p1 p2 pos : Pos} {ks : List Nat} {ies : List IE} : swOk sc ts es = true → CT locs sc ts ks → CEs K locs sc es ies → CS1 K R locs sc (.Assign [.Tuple ts k1 p1] (.Tuple es k2 p2) pos) (.asgT ks ies)
  | expr {locs : List Str} {sc : Scope} {e : Expr} {pos : Pos} {ie : IE} : isComp e = false → CE K locs sc e ie → CS1 K R locs sc (.Expr e pos) (.expr ie)
  | ret {locs : List Str} {sc : Scope} {e : Expr} {pos : Pos} {ie : IE} : CE K locs sc e ie → CS1 K R locs sc (.Return (some e) pos) (.ret ie)
  | ite {locs : List Str} {sc : Scope} {c : Expr} {a b : List Stmt} {pos : Pos} {ic : IE} {ia ib : List IS} : CE K locs sc c ic → All2 (R locs sc) a ia → All2 (R locs sc) b ib → CS1 K R locs sc (.If c a b pos) (.ite ic ia ib)
  | whil {locs : List Str} {sc : Scope} {c : Expr} {b : List Stmt} {pos : Pos} {ic : IE} {ib : List IS} : CE K locs sc c ic → All2 (R locs sc) b ib → CS1 K R locs sc (.While c b [] pos) (.whil ic ib)
  | range {locs : List Str} {sc : Scope} {x : Str} {p pr cp pos : Pos} {hi : Expr} {b : List Stmt} {k : Nat} {ih : IE} {ib : List IS} : sc.names.lookup (Str.ofString "range") = some .globalImplicit → globV K (Str.ofString "range") = some (.type "range") → locIx locs sc x = some k → CE K locs sc hi ih → All2 (R locs sc) b ib → CS1 K R locs sc (.For (.Name x p) (.Call (.Name (Str.ofString "range") pr) [hi] [] cp) b [] pos) (.forRange k ih ib)
  | forN {locs : List Str} {sc : Scope} {x : Str} {p pos : Pos} {it : Expr} {b : List Stmt} {k : Nat} {ii : IE} {ib : List IS} : locIx locs sc x = some k → CE K locs sc it ii → All2 (R locs sc) b ib → CS1 K R locs sc (.For (.Name x p) it b [] pos) (.forr [k] ii ib)
  | forT {locs : List Str} {sc : Scope} {ts : List Expr} {k1 : Nat} {p pos : Pos} {it : Expr} {b : List Stmt} {ks : List Nat} {ii : IE} {ib : List IS} : ks.length ≠ 1 → CT locs sc ts ks → CE K locs sc it ii → All2 (R locs sc) b ib → CS1 K R locs sc (.For (.Tuple ts k1 p) it b [] pos) (.forr ks ii ib)
  | raise {locs : List Str} {sc : Scope} {e : Expr} {pos : Pos} {ie : IE} : CE K locs sc e ie → CS1 K R locs sc (.Raise (some e) none pos) (.raise ie)
  | tryE {locs : List Str} {sc : Scope} {b : List Stmt} {h : ExceptHandler} {hs : List ExceptHandler} {pos : Pos} {ib : List IS} {ihs : List (Addr × Option Nat × HS)} : All2 (R locs sc) b ib → CH K locs sc (h :: hs) ihs → CS1 K R locs sc (.Try b (h :: hs) [] [] pos) (.tryx ib ihs)
theorem CS1.mono {K : Frag} {R R' : List Str → Scope → Stmt → IS → Prop} (k : ∀ l s e i, R l s e i → R' l s e i) {locs : List Str} {sc : Scope} {e : Stmt} {i : IS} (h : CS1 K R locs sc e i) : CS1 K R' locs sc e i := by
  cases h with
  | asgC h0 h1 h2 => exact .asgC h0 h1 h2
  | asg h0 h1 h2 => exact .asg h0 h1 h2
  | asgAt h0 h1 => exact .asgAt h0 h1
  | asgT h0 h1 h2 => exact .asgT h0 h1 h2
  | expr h0 h1 => exact .expr h0 h1
  | ret h0 => exact .ret h0
  | ite h0 h1 h2 => exact .ite h0 (h1.mono fun _ _ => k _ _ _ _) (h2.mono fun _ _ => k _ _ _ _)
  | whil h0 h1 => exact .whil h0 (h1.mono fun _ _ => k _ _ _ _)
  | range h0 h1 h2 h3 h4 => exact .range h0 h1 h2 h3 (h4.mono fun _ _ => k _ _ _ _)
  | forN h0 h1 h2 => exact .forN h0 h1 (h2.mono fun _ _ => k _ _ _ _)
  | forT h0 h1 h2 h3 => exact .forT h0 h1 h2 (h3.mono fun _ _ => k _ _ _ _)
  | raise h0 => exact .raise h0
  | tryE h0 h1 => exact .tryE (h0.mono fun _ _ => k _ _ _ _) h1
noncomputable def CS (K : Frag) (locs : List Str) (sc : Scope) (e : Stmt) (i : IS) : Prop := ∃ R : List Str → Scope → Stmt → IS → Prop, (∀ l s e i, R l s e i → CS1 K R l s e i) ∧ R locs sc e i
theorem CS.out {K : Frag} {locs : List Str} {sc : Scope} {e : Stmt} {i : IS} (h : CS K locs sc e i) : CS1 K (CS K) locs sc e i := let ⟨_, k, r⟩ := h; (k _ _ _ _ r).mono fun _ _ _ _ r => ⟨_, k, r⟩
theorem CS.mk {K : Frag} {locs : List Str} {sc : Scope} {e : Stmt} {i : IS} (h : CS1 K (CS K) locs sc e i) : CS K locs sc e i := ⟨CS1 K (CS K), fun _ _ _ _ h => h.mono fun _ _ _ _ x => x.out, h⟩
noncomputable abbrev CSs (K : Frag) (locs : List Str) (sc : Scope) : List Stmt → List IS → Prop := All2 (CS K locs sc)
theorem CS.asgC {K : Frag} {locs : List Str} {sc csc : Scope} {x : Str} {p q pos : Pos} {elt : Expr} {gens : List Comprehension} {k : Nat} {it el : IE} {t : Option IE} : compFree p q csc x = true → locIx locs sc x = some k → CE K locs sc (.ListComp elt gens csc q) (.comp it el t) → CS K locs sc (.Assign [.Name x p] (.ListComp elt gens csc q) pos) (.asgC k it el t) := fun h0 h1 h2 => .mk (.asgC h0 h1 h2)
theorem CS.asg {K : Frag} {locs : List Str} {sc : Scope} {x : Str} {p pos : Pos} {e : Expr} {k : Nat} {ie : IE} : isComp e = false → locIx locs sc x = some k → CE K locs sc e ie → CS K locs sc (.Assign [.Name x p] e pos) (.asg k ie) := fun h0 h1 h2 => .mk (.asg h0 h1 h2)
theorem CS.asgAt {K : Frag} {locs : List Str} {sc : Scope} {o e : Expr} {p pos : Pos} {io ie : IE} : CE K locs sc o io → CE K locs sc e ie → CS K locs sc (.Assign [.Attribute o (Str.ofString "at") p] e pos) (.asgAt io ie) := fun h0 h1 => .mk (.asgAt h0 h1)
theorem CS.asgT {K : Frag} {locs : List Str} {sc : Scope} {ts es : List Expr} {k1 k2 : Nat} {p1 p2 pos : Pos} {ks : List Nat} {ies : List IE} : swOk sc ts es = true → CT locs sc ts ks → CEs K locs sc es ies → CS K locs sc (.Assign [.Tuple ts k1 p1] (.Tuple es k2 p2) pos) (.asgT ks ies) := fun h0 h1 h2 => .mk (.asgT h0 h1 h2)
theorem CS.expr {K : Frag} {locs : List Str} {sc : Scope} {e : Expr} {pos : Pos} {ie : IE} : isComp e = false → CE K locs sc e ie → CS K locs sc (.Expr e pos) (.expr ie) := fun h0 h1 => .mk (.expr h0 h1)
theorem CS.ret {K : Frag} {locs : List Str} {sc : Scope} {e : Expr} {pos : Pos} {ie : IE} : CE K locs sc e ie → CS K locs sc (.Return (some e) pos) (.ret ie) := fun h0 => .mk (.ret h0)
theorem CS.ite {K : Frag} {locs : List Str} {sc : Scope} {c : Expr} {a b : List Stmt} {pos : Pos} {ic : IE} {ia ib : List IS} : CE K locs sc c ic → CSs K locs sc a ia → CSs K locs sc b ib → CS K locs sc (.If c a b pos) (.ite ic ia ib) := fun h0 h1 h2 => .mk (.ite h0 h1 h2)
theorem CS.whil {K : Frag} {locs : List Str} {sc : Scope} {c : Expr} {b : List Stmt} {pos : Pos} {ic : IE} {ib : List IS} : CE K locs sc c ic → CSs K locs sc b ib → CS K locs sc (.While c b [] pos) (.whil ic ib) := fun h0 h1 => .mk (.whil h0 h1)
theorem CS.range {K : Frag} {locs : List Str} {sc : Scope} {x : Str} {p pr cp pos : Pos} {hi : Expr} {b : List Stmt} {k : Nat} {ih : IE} {ib : List IS} : sc.names.lookup (Str.ofString "range") = some .globalImplicit → globV K (Str.ofString "range") = some (.type "range") → locIx locs sc x = some k → CE K locs sc hi ih → CSs K locs sc b ib → CS K locs sc (.For (.Name x p) (.Call (.Name (Str.ofString "range") pr) [hi] [] cp) b [] pos) (.forRange k ih ib) := fun h0 h1 h2 h3 h4 => .mk (.range h0 h1 h2 h3 h4)
theorem CS.forN {K : Frag} {locs : List Str} {sc : Scope} {x : Str} {p pos : Pos} {it : Expr} {b : List Stmt} {k : Nat} {ii : IE} {ib : List IS} : locIx locs sc x = some k → CE K locs sc it ii → CSs K locs sc b ib → CS K locs sc (.For (.Name x p) it b [] pos) (.forr [k] ii ib) := fun h0 h1 h2 => .mk (.forN h0 h1 h2)
theorem CS.forT {K : Frag} {locs : List Str} {sc : Scope} {ts : List Expr} {k1 : Nat} {p pos : Pos} {it : Expr} {b : List Stmt} {ks : List Nat} {ii : IE} {ib : List IS} : ks.length ≠ 1 → CT locs sc ts ks → CE K locs sc it ii → CSs K locs sc b ib → CS K locs sc (.For (.Tuple ts k1 p) it b [] pos) (.forr ks ii ib) := fun h0 h1 h2 h3 => .mk (.forT h0 h1 h2 h3)
theorem CS.raise {K : Frag} {locs : List Str} {sc : Scope} {e : Expr} {pos : Pos} {ie : IE} : CE K locs sc e ie → CS K locs sc (.Raise (some e) none pos) (.raise ie) := fun h0 => .mk (.raise h0)
theorem CS.tryE {K : Frag} {locs : List Str} {sc : Scope} {b : List Stmt} {h : ExceptHandler} {hs : List ExceptHandler} {pos : Pos} {ib : List IS} {ihs : List (Addr × Option Nat × HS)} : CSs K locs sc b ib → CH K locs sc (h :: hs) ihs → CS K locs sc (.Try b (h :: hs) [] [] pos) (.tryx ib ihs) := fun h0 h1 => .mk (.tryE h0 h1)

noncomputable def paramsPlain (p : Arguments) : Bool := p.posonlyargs.isEmpty && p.vararg.isNone && p.kwonlyargs.isEmpty && p.kwarg.isNone
noncomputable def okF (K : Frag) (fd : FuncData) : Bool :=
  paramsPlain fd.params && ((fd.scope.names.map (·.1)).take fd.params.args.length == fd.params.args.map (·.arg)) && decide ((fd.scope.names.map (·.1)).Nodup)
    && !fd.scope.isCoroutine && !fd.scope.isGenerator && fd.scope.kind == .function && fd.scope.names.all (fun x => x.2 != .cell)
    && fd.params.args.all (fun a => fd.scope.names.lookup a.arg == some .local) && codeIn K fd.code fd.qualname
    && fd.globals == mainGlobals && fd.closure.isEmpty && fd.builtins == builtinsNs && (match fd.defaults with | .none => true | _ => false)
structure CF (K : Frag) (a : Addr) (f : Fn) : Prop where
  ex : ∃ oc od fd sl body, K.lookup a = some ⟨oc, od, .func fd, sl⟩ ∧ fd.body = .stmts body ∧ okF K fd = true ∧ CSs K (fd.scope.names.map (·.1)) fd.scope body f.body ∧ f.np = fd.params.args.length ∧ f.nl = fd.scope.names.length
end Mine
end

section
open PySem PySem.W PyProof.Rows
set_option maxRecDepth 100000
set_option genInjectivity false
namespace Mine

inductive Ex (α : Type) where
  | ok (a : α)
  | exc (i : Nat)
noncomputable abbrev R (α : Type) := Option (Ex α × List TO)
@[simp] def bnd {α β : Type} : R α → (α → List TO → R β) → R β
  | none, _ => none
  | some (.ok a, σ), f => f a σ
  | some (.exc i, σ), _ => some (.exc i, σ)
@[simp] def ret {α : Type} (a : α) (σ : List TO) : R α := some (.ok a, σ)
@[simp] def opt {α : Type} (x : Option α) (σ : List TO) : R α := x.map fun a => (.ok a, σ)
noncomputable abbrev Lo := List (Option AV)

noncomputable def tupItems (K : Frag) : AV → Option (List AV)
  | .tup vs => some vs
  | .val (.ref a) => match K.lookup a with
    | some ⟨.type "tuple", none, .seq items _, sl⟩ => if sl.isEmpty then some (items.toList.map toAV) else none
    | _ => none
  | _ => none

noncomputable def intAV : AV → Option Int
  | .int i => some i
  | _ => none
noncomputable def strAV : AV → Option (List Nat)
  | .str i => some i
  | _ => none
noncomputable def bytesAV : AV → Option (List UInt8)
  | .bytes i => some i
  | _ => none
noncomputable def locAV : AV → Option Nat
  | .loc i => some i
  | _ => none
noncomputable def one? {α : Type} : List α → Option α
  | [a] => some a
  | _ => none
theorem int_of {a : AV} {i : Int} (h : intAV a = some i) : a = .int i := by cases a <;> cases h; rfl
theorem str_of {a : AV} {i : List Nat} (h : strAV a = some i) : a = .str i := by cases a <;> cases h; rfl
theorem byt_of {a : AV} {i : List UInt8} (h : bytesAV a = some i) : a = .bytes i := by cases a <;> cases h; rfl
theorem loc_of {a : AV} {i : Nat} (h : locAV a = some i) : a = .loc i := by cases a <;> cases h; rfl
theorem one_of {α : Type} {l : List α} {a : α} (h : one? l = some a) : l = [a] := by
  rcases l with _ | ⟨b, _ | _⟩ <;> cases h; rfl
theorem bind_of {α β : Type} {x : Option α} {f : α → Option β} {r : β} (h : x.bind f = some r) : ∃ a, x = some a ∧ f a = some r := Option.bind_eq_some_iff.mp h
noncomputable def ints2 {β : Type} (a b : AV) (f : Int → Int → Option β) : Option β := (intAV a).bind fun i => (intAV b).bind fun j => f i j
theorem ints2_of {β : Type} {a b : AV} {f : Int → Int → Option β} {r : β} (h : ints2 a b f = some r) : ∃ i j, a = .int i ∧ b = .int j ∧ f i j = some r := by
  obtain ⟨i, h1, h⟩ := bind_of h
  obtain ⟨j, h2, h⟩ := bind_of h
  exact ⟨i, j, int_of h1, int_of h2, h⟩

noncomputable def binA : BK → AV → AV → Option AV
  | .add, a, b => match a with
    | .int a => (intAV b).bind fun b => some (.int (a + b))
    | .str a => (strAV b).bind fun b => if a.length + b.length ≤ 100000 then some (.str (a ++ b)) else none
    | .bytes a => (bytesAV b).bind fun b => if a.length + b.length ≤ 100000 then some (.bytes (a ++ b)) else none
    | _ => none
  | .sub, a, b => ints2 a b fun a b => some (.int (a - b))
  | .mul, a, b => ints2 a b fun a b => if b = 10 then some (.int (a * b)) else none
  | .mod, a, b => ints2 a b fun a b => if b = 0 then none else some (.int (a.fmod b))
  | .div, a, b => ints2 a b fun a b => if b = 10 then some (.int (a.fdiv b)) else none

mutual
noncomputable def dataT : AV → Option PyData
  | .none => some .none
  | .int i => some (.int i)
  | .tup vs => (dataTs vs).map .tuple
  | _ => none
noncomputable def dataTs : List AV → Option (List PyData)
  | [] => some []
  | a :: as => (dataT a).bind fun d => (dataTs as).map fun ds => d :: ds
end
noncomputable def dataTop (K : Frag) : AV → Option PyData
  | .val v => (tupItems K (.val v)).bind fun vs => (dataTs vs).map .tuple
  | a => dataT a
noncomputable def plainA : AV → Bool
  | .int _ => true
  | .str s => s.all fun c => decide (c < 128)
  | _ => false
noncomputable def eqA (K : Frag) (σ : List TO) (a b : AV) : Option Bool := match a, b with
  | .loc i, .loc j => match σ[i]?, σ[j]? with
    | some (.list vs), some (.list []) => if vs.all plainA then some vs.isEmpty else none
    | _, _ => none
  | .str a, .str b => some (a == b)
  | .bytes a, .bytes b => some (a == b)
  | a, b => match dataTop K a, dataTop K b with
    | some da, some db => if SeqAt.shaped da && SeqAt.shaped db then some (PyData.eqv da db) else none
    | _, _ => none

noncomputable def strsOf : List AV → Option (List (List Nat))
  | [] => some []
  | .str s :: r => (strsOf r).map (s :: ·)
  | _ => none
noncomputable def intsOf : List AV → Option (List Int)
  | [] => some []
  | .int s :: r => (intsOf r).map (s :: ·)
  | _ => none
noncomputable def inA (K : Frag) (σ : List TO) (a b : AV) : Option Bool := match a, b with
  | .int c, .bytes l => if 0 ≤ c ∧ c < 256 then some (l.contains (UInt8.ofNat c.toNat)) else none
  | .str [c], .str l => some (l.contains c)
  | .str s, .loc i => match σ[i]? with
    | some (.list vs) => (strsOf vs).map (·.any (· == s))
    | _ => none
  | .str s, b => (tupItems K b).bind fun vs => (strsOf vs).map (·.any (· == s))
  | .int s, b => (tupItems K b).bind fun vs => (intsOf vs).map (·.any (· == s))
  | _, _ => none

noncomputable def cmpA (K : Frag) (σ : List TO) : CK → AV → AV → Option Bool
  | .eq, a, b => eqA K σ a b
  | .ne, a, b => (eqA K σ a b).map (!·)
  | .lt, a, b => ints2 a b fun a b => some (decide (a < b))
  | .le, a, b => match a with
    | .int a => (intAV b).bind fun b => some (decide (a ≤ b))
    | .str a => (strAV b).bind fun b => (one? a).bind fun a => (one? b).bind fun b => some (decide (a ≤ b))
    | _ => none
  | .gt, a, b => ints2 a b fun a b => some (decide (b < a))
  | .ge, a, b => ints2 a b fun a b => some (decide (b ≤ a))
  | .is, a, b => match b with
    | .none => match a with
      | .none => some true
      | .tup _ => some false
      | .int _ => some false
      | _ => none
    | _ => none
  | .inn, a, b => inA K σ a b
  | .nin, a, b => (inA K σ a b).map (!·)

noncomputable def lowerN (c : Nat) : Nat := if 65 ≤ c ∧ c ≤ 90 then c + 32 else c
noncomputable def upperN (c : Nat) : Nat := if 97 ≤ c ∧ c ≤ 122 then c - 32 else c
noncomputable def ascii (l : List Nat) : Bool := l.all fun c => decide (c < 128)

noncomputable def splitL (c : Nat) : List Nat → List (List Nat)
  | [] => [[]]
  | x :: r => if x = c then [] :: splitL c r else match splitL c r with
    | [] => [[x]]
    | p :: ps => (x :: p) :: ps

noncomputable def figVal (l : List Nat) : Nat := l.foldl (fun n c => n * 10 + (c - 48)) 0
noncomputable def figs (l : List Nat) : Bool := l != [] && l.all fun c => decide (48 ≤ c ∧ c ≤ 57)

@[simp] def mk (t : TO) (σ : List TO) : R AV := some (.ok (.loc σ.length), σ ++ [t])

noncomputable def subA (K : Frag) (σ : List TO) : AV → AV → Option AV
  | .bytes b, .int i => if 0 ≤ i ∧ b.length ≤ 100000 then (b[i.toNat]?).map fun c => .int (c.toNat : Int) else none
  | .loc k, .int i => match σ[k]? with
    | some (.list vs) => if 0 ≤ i ∧ i < 100000 then vs[i.toNat]? else none
    | _ => none
  | a, .int i => (tupItems K a).bind fun vs => if 0 ≤ i ∧ i < 100000 then vs[i.toNat]? else none
  | _, _ => none

noncomputable def sliceL {α : Type} (l : List α) (lo hi : Option Int) : Option (List α) :=
  let a := lo.getD 0
  let b := hi.getD l.length
  if 0 ≤ a ∧ 0 ≤ b ∧ l.length ≤ 100000 then some ((l.take b.toNat).drop a.toNat) else none
noncomputable def optI : Option AV → Option (Option Int)
  | none => some none
  | some (.int i) => some (some i)
  | _ => none
noncomputable def sliceA (σ : List TO) (o : AV) (lo hi : Option AV) : R AV := match optI lo, optI hi with
  | some lo, some hi => (match o with
    | .bytes b => opt ((sliceL b lo hi).map .bytes) σ
    | .str b => opt ((sliceL b lo hi).map .str) σ
    | .fl b => opt ((sliceL b lo hi).map .fl) σ
    | _ => none)
  | _, _ => none

noncomputable def joinA (vs : List AV) : Option AV := (strsOf vs).bind fun l => if l.all (fun s => decide (s.length = 1)) ∧ l.length ≤ 100000 then some (.str l.flatten) else none
noncomputable def bytesOfInts (l : List Int) : Option AV := if l.all (fun c => decide (0 ≤ c ∧ c < 256)) ∧ l.length ≤ 100000 then some (.bytes (l.map fun c => UInt8.ofNat c.toNat)) else none

noncomputable def lstAt (σ : List TO) (i : Nat) : Option (List AV) := match σ[i]? with
  | some (.list vs) => some vs
  | _ => none
noncomputable def barrAt (σ : List TO) (i : Nat) : Option (List UInt8) := match σ[i]? with
  | some (.barr vs) => some vs
  | _ => none
noncomputable def lenB (σ : List TO) : AV → R AV
  | .str s => if s.length ≤ 100000 then ret (.int s.length) σ else none
  | .bytes s => if s.length ≤ 100000 then ret (.int s.length) σ else none
  | .loc i => (lstAt σ i).bind fun vs => if vs.length ≤ 100000 then ret (.int vs.length) σ else none
  | _ => none
noncomputable def bytB (σ : List TO) : AV → R AV
  | .bytes b => ret (.bytes b) σ
  | .loc i => match lstAt σ i with
    | some vs => opt ((intsOf vs).bind bytesOfInts) σ
    | none => (barrAt σ i).bind fun b => if b.length ≤ 100000 then ret (.bytes b) σ else none
  | _ => none
noncomputable def intB (σ : List TO) : AV → R AV
  | .str s => if figs s = true ∧ s.length ≤ 100 then ret (.int (figVal s)) σ else none
  | .int i => ret (.int i) σ
  | _ => none
noncomputable def callB (σ : List TO) (f : Value) (as : List AV) : R AV :=
  if f = .builtin "len" then (one? as).bind (lenB σ)
  else if f = .builtin "ord" then (one? as).bind fun a => (strAV a).bind fun s => (one? s).bind fun c => ret (.int c) σ
  else if f = .builtin "chr" then (one? as).bind fun a => (intAV a).bind fun c => if 0 ≤ c ∧ c < 256 then ret (.str [c.toNat]) σ else none
  else if f = .type "bytes" then (one? as).bind (bytB σ)
  else if f = .type "bytearray" then if as.isEmpty = true then mk (.barr []) σ else none
  else if f = .type "int" then (one? as).bind (intB σ)
  else none

noncomputable def callC (σ : List TO) (C : Addr) (as : List AV) : R AV :=
  if C = wireC then match as with
    | [.bytes b] => some (.ok (.wire σ.length), σ ++ [.wire b 0])
    | _ => none
  else if C = 59 ∨ C = 71 ∨ C = 83 then match as with
    | [.str _, .int a] => mk (.exc C a .fresh) σ
    | _ => none
  else none

theorem lst_of {σ : List TO} {i : Nat} {vs : List AV} (h : lstAt σ i = some vs) : σ[i]? = some (.list vs) := by
  unfold lstAt at h
  split at h <;> cases h
  assumption
theorem barr_of {σ : List TO} {i : Nat} {vs : List UInt8} (h : barrAt σ i = some vs) : σ[i]? = some (.barr vs) := by
  unfold barrAt at h
  split at h <;> cases h
  assumption
noncomputable def idx (s : List Nat) (vs : List AV) : Option AV := (strsOf vs).bind fun l => (l.findIdx? (· == s)).map fun (k : Nat) => AV.int (k : Int)
noncomputable def methB (K : Frag) (σ : List TO) (k : MK) (o : AV) (as : List AV) : R AV := match k with
  | .split => (strAV o).bind fun s => (one? as).bind fun x => (strAV x).bind fun x => (one? x).bind fun c => if s.length ≤ 100000 then mk (.list ((splitL c s).map .str)) σ else none
  | .lower => (strAV o).bind fun s => if as.isEmpty = true then if ascii s = true ∧ s.length ≤ 100000 then ret (.str (s.map lowerN)) σ else none else none
  | .upper => (strAV o).bind fun s => if as.isEmpty = true then if ascii s = true ∧ s.length ≤ 100000 then ret (.str (s.map upperN)) σ else none else none
  | .pop => (locAV o).bind fun i => (one? as).bind fun x => (intAV x).bind fun z => if z = 0 then (lstAt σ i).bind fun vs => vs.head?.bind fun v => if vs.tail.length ≤ 100000 then ret v (σ.set i (.list vs.tail)) else none else none
  | .index => (one? as).bind fun x => (strAV x).bind fun s => match o with
    | .loc i => (lstAt σ i).bind fun vs => if vs.length ≤ 100000 then opt (idx s vs) σ else none
    | o => opt ((tupItems K o).bind (idx s)) σ
  | .append => (locAV o).bind fun i => (one? as).bind fun x => (intAV x).bind fun c => (barrAt σ i).bind fun b => if 0 ≤ c ∧ c < 256 ∧ b.length ≤ 100000 then ret .none (σ.set i (.barr (b ++ [UInt8.ofNat c.toNat]))) else none
  | .join => (strAV o).bind fun s => if s.isEmpty = true then (one? as).bind fun x => (locAV x).bind fun i => (lstAt σ i).bind fun vs => opt (joinA vs) σ else none
  | .own _ _ => none

noncomputable def kindT (σ : List TO) : AV → Nat
  | .loc i => match σ[i]? with
    | some (.list _) => 1
    | some (.barr _) => 2
    | _ => 0
  | .wire i => match σ[i]? with
    | some (.wire _ _) => 4
    | _ => 0
  | _ => 3

noncomputable def iterA (K : Frag) (σ : List TO) : AV → Option (List AV)
  | .str s => if ascii s = true then some (s.map fun c => .str [c]) else none
  | .bytes b => some (b.map fun c => .int (c.toNat : Int))
  | .fl vs => some vs
  | a => tupItems K a

inductive Out where
  | nxt
  | ret (v : AV)
  | exc (i : Nat)
noncomputable abbrev RS := Option (Out × Lo × List TO)

@[simp] def stm {α : Type} (x : R α) (m : Lo) (F : α → List TO → RS) : RS := match x with
  | some (.ok a, σ) => F a σ
  | some (.exc i, σ) => some (.exc i, m, σ)
  | none => none

noncomputable def unA : List Nat → AV → Lo → Option Lo
  | [k], v, m => some (m.set k (some v))
  | _, _, _ => none
noncomputable def putAll : List Nat → List AV → Lo → Option Lo
  | [], [], m => some m
  | k :: ks, v :: vs, m => putAll ks vs (m.set k (some v))
  | _, _, _ => none

noncomputable def putT (K : Frag) (ks : List Nat) (v : AV) (m : Lo) : Option Lo := match ks with
  | [k] => some (m.set k (some v))
  | ks => (tupItems K v).bind fun us => putAll ks us m

noncomputable def excAt (σ : List TO) (i : Nat) : Option (Addr × Int × XS) := match σ[i]? with
  | some (.exc C a x) => some (C, a, x)
  | _ => none
theorem exc_of {σ : List TO} {i : Nat} {C : Addr} {a : Int} {x : XS} (h : excAt σ i = some (C, a, x)) : σ[i]? = some (.exc C a x) := by
  unfold excAt at h
  split at h <;> cases h
  assumption
noncomputable def evU (x : Option Nat) (u : HS) (a : Int) (xs : XS) (i : Nat) (m : Lo) (σ : List TO) : RS := match u with
  | .asgNone k => if x.isNone = true then some (.nxt, m.set k (some .none), σ) else none
  | .raise D _ j => if x.isNone = true then (m[j]?).bind fun v => v.bind fun v => (intAV v).bind fun b => if (D = 59 ∨ D = 71 ∨ D = 83) ∧ xs = .bare then some (.exc σ.length, m, σ ++ [.exc D b .any]) else none else none
  | .asgAt k j' => x.bind fun j => if j = j' ∧ k ≠ j then some (.nxt, (m.set k (some (.int a))).set j none, σ) else none
noncomputable def evHs : List (Addr × Option Nat × HS) → Nat → Lo → List TO → RS
  | [], i, m, σ => some (.exc i, m, σ)
  | p :: r, i, m, σ => (excAt σ i).bind fun e => if (p.1 = 59 ∨ p.1 = 71 ∨ p.1 = 83) ∧ (e.1 = 59 ∨ e.1 = 71 ∨ e.1 = 83) then (if e.1 = p.1 then evU p.2.1 p.2.2 e.2.1 e.2.2 i m σ else evHs r i m σ) else none

structure Ev where
  E : Nat → Lo → IE → List TO → R AV
  T : Nat → Lo → IE → List TO → R Bool
  All : Nat → Lo → Bool → List IE → List TO → R Bool
  Es : Nat → Lo → List IE → List TO → R (List AV)
  O : Nat → Lo → Option IE → List TO → R (Option AV)
  Comp : Nat → IE → Option IE → List AV → List TO → R (List AV)
  TO' : Nat → Lo → Option IE → List TO → R Bool
  Call : Nat → AV → List AV → List TO → R AV
  Fn' : Nat → Addr → List AV → List TO → R AV
  S : Nat → IS → Lo → List TO → RS
  For : Nat → List Nat → List AV → List IS → Lo → List TO → RS
  Ss : Nat → List IS → Lo → List TO → RS

section
variable (K : Frag) (FT : Addr → Option Fn) (r : Ev)
noncomputable def stE (d : Nat) (m : Lo) (e : IE) (σ : List TO) : R AV := match e with
    | .const v => ret v σ
    | .var k => match m[k]? with
      | some (some v) => ret v σ
      | _ => none
    | .not e => bnd (r.T d m e σ) fun b σ => ret (.bool (!b)) σ
    | .and es => bnd (r.All d m true es σ) fun b σ => ret (.bool b) σ
    | .or es => bnd (r.All d m false es σ) fun b σ => ret (.bool b) σ
    | .ite c a b => bnd (r.T d m c σ) fun t σ => if t then r.E d m a σ else r.E d m b σ
    | .bin k a b => bnd (r.E d m a σ) fun a σ => bnd (r.E d m b σ) fun b σ => opt (binA k a b) σ
    | .cmp k a b => bnd (r.E d m a σ) fun a σ => bnd (r.E d m b σ) fun b σ => opt ((cmpA K σ k a b).map .bool) σ
    | .cmp2 k₁ k₂ a b c => bnd (r.E d m a σ) fun a σ => bnd (r.E d m b σ) fun b σ => match cmpA K σ k₁ a b with
      | some true => bnd (r.E d m c σ) fun c σ => opt ((cmpA K σ k₂ b c).map .bool) σ
      | some false => ret (.bool false) σ
      | none => none
    | .call f as => bnd (r.E d m f σ) fun f σ => bnd (r.Es d m as σ) fun as σ => r.Call d f as σ
    | .meth k o as => bnd (r.E d m o σ) fun o σ₁ => match r.Es d m as σ₁ with
      | some (.ok as, σ) => (match k with
        | .own _ f => if kindT σ₁ o = 4 then r.Fn' d f (o :: as) σ else none
        | k => if kindT σ₁ o = kindT σ o then methB K σ k o as else none)
      | _ => none
    | .at o => bnd (r.E d m o σ) fun o σ => match o with
      | .wire i => match σ[i]? with
        | some (.wire _ a) => ret (.int a) σ
        | _ => none
      | _ => none
    | .data o => bnd (r.E d m o σ) fun o σ => match o with
      | .wire i => match σ[i]? with
        | some (.wire b _) => ret (.bytes b) σ
        | _ => none
      | _ => none
    | .sub o i => bnd (r.E d m o σ) fun o σ => bnd (r.E d m i σ) fun i σ => opt (subA K σ o i) σ
    | .slice o lo hi => bnd (r.E d m o σ) fun o σ => bnd (r.O d m lo σ) fun lo σ => bnd (r.O d m hi σ) fun hi σ => sliceA σ o lo hi
    | .tup es => bnd (r.Es d m es σ) fun vs σ => if vs.length ≤ 100 then ret (.tup vs) σ else none
    | .list es => bnd (r.Es d m es σ) fun vs σ => if AV.frees vs && vs.length ≤ 100 then mk (.list vs) σ else none
    | .comp it el t => bnd (r.E d m it σ) fun o σ => match iterA K σ o with
      | some vs => bnd (r.Comp d el t vs σ) fun vs σ => if AV.frees vs && vs.length ≤ 100000 then mk (.list vs) σ else none
      | none => none
noncomputable def stT (d : Nat) (m : Lo) (e : IE) (σ : List TO) : R Bool := bnd (r.E d m e σ) fun v σ => match v with
    | .bool b => ret b σ
    | _ => none
noncomputable def stAll (d : Nat) (m : Lo) (a : Bool) (es : List IE) (σ : List TO) : R Bool := match es with
  | [] => ret a σ
  | e :: es => bnd (r.T d m e σ) fun b σ => if b = a then r.All d m a es σ else ret (!a) σ
noncomputable def stEs (d : Nat) (m : Lo) (es : List IE) (σ : List TO) : R (List AV) := match es with
  | [] => ret [] σ
  | e :: es => bnd (r.E d m e σ) fun v σ => bnd (r.Es d m es σ) fun vs σ => ret (v :: vs) σ
noncomputable def stO (d : Nat) (m : Lo) (e : Option IE) (σ : List TO) : R (Option AV) := match e with
  | none => ret none σ
  | some e => bnd (r.E d m e σ) fun v σ => ret (some v) σ
noncomputable def stComp (d : Nat) (el : IE) (t : Option IE) (vs : List AV) (σ : List TO) : R (List AV) := match vs with
  | [] => ret [] σ
  | v :: vs => match r.TO' d [some v] t σ with
    | some (.ok true, σ) => (match r.E d [some v] el σ with
      | some (.ok x, σ) => bnd (r.Comp d el t vs σ) fun xs σ => ret (x :: xs) σ
      | _ => none)
    | some (.ok false, σ) => r.Comp d el t vs σ
    | _ => none
noncomputable def stTO (d : Nat) (m : Lo) (t : Option IE) (σ : List TO) : R Bool := match t with
  | none => ret true σ
  | some t => r.T d m t σ
noncomputable def stCall (d : Nat) (f : AV) (as : List AV) (σ : List TO) : R AV := match f with
    | .val (.ref a) => if a = wireC ∨ a = 59 ∨ a = 71 ∨ a = 83 then callC σ a as else r.Fn' d a as σ
    | .val f => callB σ f as
    | _ => none
noncomputable def stFn (d : Nat) (a : Addr) (as : List AV) (σ : List TO) : R AV := match d with
  | 0 => none
  | d + 1 => match FT a with
    | some ⟨np, nl, body⟩ => if as.length = np ∧ np ≤ nl then (match r.Ss d body (as.map some ++ List.replicate (nl - np) none) σ with
        | some (.nxt, _, σ') => some (.ok .none, σ'.take σ.length)
        | some (.ret v, _, σ') => if v.free then some (.ok v, σ'.take σ.length) else if a = 257 then some (.ok v, σ') else none
        | some (.exc i, _, σ') => some (.exc i, σ')
        | none => none) else none
    | none => none
noncomputable def stS (d : Nat) (s : IS) (m : Lo) (σ : List TO) : RS := match s with
    | .asg k e => stm (r.E d m e σ) m fun v σ => some (.nxt, m.set k (some v), σ)
    | .asgC k it el t => stm (r.E d m (.comp it el t) σ) m fun v σ => some (.nxt, m.set k (some v), σ)
    | .asgAt o e => match r.E d m e σ with
      | some (.ok (.int a), σ) => (match r.E d m o σ with
        | some (.ok (.wire i), σ) => (match σ[i]? with
          | some (.wire b _) => some (.nxt, m, σ.set i (.wire b a))
          | _ => none)
        | _ => none)
      | _ => none
    | .asgT ks es => stm (r.Es d m es σ) m fun vs σ => match putAll ks.reverse vs.reverse m with
      | some m => some (.nxt, m, σ)
      | none => none
    | .expr e => stm (r.E d m e σ) m fun v σ => match v with
      | .none => some (.nxt, m, σ)
      | .bool _ => some (.nxt, m, σ)
      | _ => none
    | .ret e => stm (r.E d m e σ) m fun v σ => some (.ret v, m, σ)
    | .ite c a b => stm (r.T d m c σ) m fun t σ => if t then r.Ss d a m σ else r.Ss d b m σ
    | .whil c b => match r.T d m c σ with
      | some (.ok true, σ) => (match r.Ss d b m σ with
        | some (.nxt, m, σ) => r.S d (.whil c b) m σ
        | _ => none)
      | some (.ok false, σ) => some (.nxt, m, σ)
      | _ => none
    | .forr ks it b => match r.E d m it σ with
      | some (.ok o, σ) => (match iterA K σ o with
        | some vs => r.For d ks vs b m σ
        | none => none)
      | _ => none
    | .forRange k hi b => match r.E d m hi σ with
      | some (.ok (.int h), σ) => if 0 ≤ h ∧ h ≤ 100000 then r.For d [k] ((List.range h.toNat).map fun i => AV.int (Int.ofNat i)) b m σ else none
      | _ => none
    | .raise e => match r.E d m e σ with
      | some (.ok (.loc i), σ) => (match σ[i]? with
        | some (.exc C a .fresh) => if C = 59 ∨ C = 71 ∨ C = 83 then some (.exc i, m, σ.set i (.exc C a .bare)) else none
        | _ => none)
      | _ => none
    | .tryx b hs => match r.Ss d b m σ with
      | some (.exc i, m, σ) => evHs hs i m σ
      | x => x
noncomputable def stFor (d : Nat) (ks : List Nat) (vs : List AV) (b : List IS) (m : Lo) (σ : List TO) : RS := match vs with
  | [] => some (.nxt, m, σ)
  | v :: vs => match putT K ks v m with
    | some m => (match r.Ss d b m σ with
      | some (.nxt, m, σ) => r.For d ks vs b m σ
      | some (.exc i, m, σ) => some (.exc i, m, σ)
      | _ => none)
    | none => none
noncomputable def stSs (d : Nat) (l : List IS) (m : Lo) (σ : List TO) : RS := match l with
  | [] => some (.nxt, m, σ)
  | s :: l => match r.S d s m σ with
    | some (.nxt, m, σ) => r.Ss d l m σ
    | x => x
end
noncomputable def ev0 : Ev := ⟨fun _ _ _ _ => none, fun _ _ _ _ => none, fun _ _ _ _ _ => none, fun _ _ _ _ => none, fun _ _ _ _ => none, fun _ _ _ _ _ => none, fun _ _ _ _ => none, fun _ _ _ _ => none, fun _ _ _ _ => none, fun _ _ _ _ => none, fun _ _ _ _ _ _ => none, fun _ _ _ _ => none⟩
noncomputable def ev1 (K : Frag) (FT : Addr → Option Fn) (r : Ev) : Ev := ⟨stE K r, stT r, stAll r, stEs r, stO r, stComp r, stTO r, stCall r, stFn FT r, stS K r, stFor K r, stSs r⟩
noncomputable def ev (K : Frag) (FT : Addr → Option Fn) : Nat → Ev
  | 0 => ev0
  | n + 1 => ev1 K FT (ev K FT n)
section
variable (K : Frag) (FT : Addr → Option Fn) (n : Nat)
noncomputable def evE := (ev K FT n).E
noncomputable def evT := (ev K FT n).T
noncomputable def evAll := (ev K FT n).All
noncomputable def evEs := (ev K FT n).Es
noncomputable def evO := (ev K FT n).O
noncomputable def evComp := (ev K FT n).Comp
noncomputable def evTO := (ev K FT n).TO'
noncomputable def evCall := (ev K FT n).Call
noncomputable def evFn := (ev K FT n).Fn'
noncomputable def evS := (ev K FT n).S
noncomputable def evFor := (ev K FT n).For
noncomputable def evSs := (ev K FT n).Ss
end
section
variable {K : Frag} {FT : Addr → Option Fn} {n d : Nat} {m : Lo} {σ : List TO}
theorem evComp_0 {el : IE} {t : Option IE} {vs : List AV} : evComp K FT 0 d el t vs σ = none := rfl
theorem evTO_0 {t : Option IE} : evTO K FT 0 d m t σ = none := rfl
theorem evS_0 {s : IS} : evS K FT 0 d s m σ = none := rfl
theorem evFor_0 {ks : List Nat} {vs : List AV} {b : List IS} : evFor K FT 0 d ks vs b m σ = none := rfl
theorem evE_var {k : Nat} : evE K FT (n + 1) d m (.var k) σ = match m[k]? with
      | some (some v) => ret v σ
      | _ => none := rfl
theorem evE_not {e : IE} : evE K FT (n + 1) d m (.not e) σ = bnd (evT K FT n d m e σ) fun b σ => ret (.bool (!b)) σ := rfl
theorem evE_and {es : List IE} : evE K FT (n + 1) d m (.and es) σ = bnd (evAll K FT n d m true es σ) fun b σ => ret (.bool b) σ := rfl
theorem evE_or {es : List IE} : evE K FT (n + 1) d m (.or es) σ = bnd (evAll K FT n d m false es σ) fun b σ => ret (.bool b) σ := rfl
theorem evE_ite {c a b : IE} : evE K FT (n + 1) d m (.ite c a b) σ = bnd (evT K FT n d m c σ) fun t σ => if t then evE K FT n d m a σ else evE K FT n d m b σ := rfl
theorem evE_bin {k : BK} {a b : IE} : evE K FT (n + 1) d m (.bin k a b) σ = bnd (evE K FT n d m a σ) fun a σ => bnd (evE K FT n d m b σ) fun b σ => opt (binA k a b) σ := rfl
theorem evE_cmp {k : CK} {a b : IE} : evE K FT (n + 1) d m (.cmp k a b) σ = bnd (evE K FT n d m a σ) fun a σ => bnd (evE K FT n d m b σ) fun b σ => opt ((cmpA K σ k a b).map .bool) σ := rfl
theorem evE_cmp2 {k₁ k₂ : CK} {a b c : IE} : evE K FT (n + 1) d m (.cmp2 k₁ k₂ a b c) σ = bnd (evE K FT n d m a σ) fun a σ => bnd (evE K FT n d m b σ) fun b σ => match cmpA K σ k₁ a b with
      | some true => bnd (evE K FT n d m c σ) fun c σ => opt ((cmpA K σ k₂ b c).map .bool) σ
      | some false => ret (.bool false) σ
      | none => none := rfl
theorem evE_call {f : IE} {as : List IE} : evE K FT (n + 1) d m (.call f as) σ = bnd (evE K FT n d m f σ) fun f σ => bnd (evEs K FT n d m as σ) fun as σ => evCall K FT n d f as σ := rfl
theorem evE_meth {k : MK} {o : IE} {as : List IE} : evE K FT (n + 1) d m (.meth k o as) σ = bnd (evE K FT n d m o σ) fun o σ₁ => match evEs K FT n d m as σ₁ with
      | some (.ok as, σ) => (match k with
        | .own _ f => if kindT σ₁ o = 4 then evFn K FT n d f (o :: as) σ else none
        | k => if kindT σ₁ o = kindT σ o then methB K σ k o as else none)
      | _ => none := rfl
theorem evE_at {o : IE} : evE K FT (n + 1) d m (.at o) σ = bnd (evE K FT n d m o σ) fun o σ => match o with
      | .wire i => match σ[i]? with
        | some (.wire _ a) => ret (.int a) σ
        | _ => none
      | _ => none := rfl
theorem evE_data {o : IE} : evE K FT (n + 1) d m (.data o) σ = bnd (evE K FT n d m o σ) fun o σ => match o with
      | .wire i => match σ[i]? with
        | some (.wire b _) => ret (.bytes b) σ
        | _ => none
      | _ => none := rfl
theorem evE_sub {o i : IE} : evE K FT (n + 1) d m (.sub o i) σ = bnd (evE K FT n d m o σ) fun o σ => bnd (evE K FT n d m i σ) fun i σ => opt (subA K σ o i) σ := rfl
theorem evE_slice {o : IE} {lo hi : Option IE} : evE K FT (n + 1) d m (.slice o lo hi) σ = bnd (evE K FT n d m o σ) fun o σ => bnd (evO K FT n d m lo σ) fun lo σ => bnd (evO K FT n d m hi σ) fun hi σ => sliceA σ o lo hi := rfl
theorem evE_tup {es : List IE} : evE K FT (n + 1) d m (.tup es) σ = bnd (evEs K FT n d m es σ) fun vs σ => if vs.length ≤ 100 then ret (.tup vs) σ else none := rfl
theorem evE_list {es : List IE} : evE K FT (n + 1) d m (.list es) σ = bnd (evEs K FT n d m es σ) fun vs σ => if AV.frees vs && vs.length ≤ 100 then mk (.list vs) σ else none := rfl
theorem evE_comp {it el : IE} {t : Option IE} : evE K FT (n + 1) d m (.comp it el t) σ = bnd (evE K FT n d m it σ) fun o σ => match iterA K σ o with
      | some vs => bnd (evComp K FT n d el t vs σ) fun vs σ => if AV.frees vs && vs.length ≤ 100000 then mk (.list vs) σ else none
      | none => none := rfl
theorem evT_s {e : IE} : evT K FT (n + 1) d m e σ = bnd (evE K FT n d m e σ) fun v σ => match v with
    | .bool b => ret b σ
    | _ => none := rfl
theorem evAll_cons {a : Bool} {e : IE} {es : List IE} : evAll K FT (n + 1) d m a (e :: es) σ = bnd (evT K FT n d m e σ) fun b σ => if b = a then evAll K FT n d m a es σ else ret (!a) σ := rfl
theorem evEs_cons {e : IE} {es : List IE} : evEs K FT (n + 1) d m (e :: es) σ = bnd (evE K FT n d m e σ) fun v σ => bnd (evEs K FT n d m es σ) fun vs σ => ret (v :: vs) σ := rfl
theorem evO_some {e : IE} : evO K FT (n + 1) d m (some e) σ = bnd (evE K FT n d m e σ) fun v σ => ret (some v) σ := rfl
theorem evComp_nil {el : IE} {t : Option IE} : evComp K FT (n + 1) d el t [] σ = ret [] σ := rfl
theorem evComp_cons {el : IE} {t : Option IE} {v : AV} {vs : List AV} : evComp K FT (n + 1) d el t (v :: vs) σ = match evTO K FT n d [some v] t σ with
    | some (.ok true, σ) => (match evE K FT n d [some v] el σ with
      | some (.ok x, σ) => bnd (evComp K FT n d el t vs σ) fun xs σ => ret (x :: xs) σ
      | _ => none)
    | some (.ok false, σ) => evComp K FT n d el t vs σ
    | _ => none := rfl
theorem evTO_none  : evTO K FT (n + 1) d m none σ = ret true σ := rfl
theorem evTO_some {t : IE} : evTO K FT (n + 1) d m (some t) σ = evT K FT n d m t σ := rfl
theorem evCall_s {f : AV} {as : List AV} : evCall K FT (n + 1) d f as σ = match f with
    | .val (.ref a) => if a = wireC ∨ a = 59 ∨ a = 71 ∨ a = 83 then callC σ a as else evFn K FT n d a as σ
    | .val f => callB σ f as
    | _ => none := rfl
theorem evCall_b {b : String} {as : List AV} : evCall K FT (n + 1) d (.val (.builtin b)) as σ = callB σ (.builtin b) as := rfl
theorem evCall_t {b : String} {as : List AV} : evCall K FT (n + 1) d (.val (.type b)) as σ = callB σ (.type b) as := rfl
theorem evCall_r {a : Addr} {as : List AV} : evCall K FT (n + 1) d (.val (.ref a)) as σ = if a = wireC ∨ a = 59 ∨ a = 71 ∨ a = 83 then callC σ a as else evFn K FT n d a as σ := rfl
theorem evFn_s {a : Addr} {as : List AV} : evFn K FT (n + 1) (d + 1) a as σ = match FT a with
    | some ⟨np, nl, body⟩ => if as.length = np ∧ np ≤ nl then (match evSs K FT n d body (as.map some ++ List.replicate (nl - np) none) σ with
        | some (.nxt, _, σ') => some (.ok .none, σ'.take σ.length)
        | some (.ret v, _, σ') => if v.free then some (.ok v, σ'.take σ.length) else if a = 257 then some (.ok v, σ') else none
        | some (.exc i, _, σ') => some (.exc i, σ')
        | none => none) else none
    | none => none := rfl
theorem evS_asg {k : Nat} {e : IE} : evS K FT (n + 1) d (.asg k e) m σ = stm (evE K FT n d m e σ) m fun v σ => some (.nxt, m.set k (some v), σ) := rfl
theorem evS_asgC {k : Nat} {it el : IE} {t : Option IE} : evS K FT (n + 1) d (.asgC k it el t) m σ = stm (evE K FT n d m (.comp it el t) σ) m fun v σ => some (.nxt, m.set k (some v), σ) := rfl
theorem evS_asgAt {o e : IE} : evS K FT (n + 1) d (.asgAt o e) m σ = match evE K FT n d m e σ with
      | some (.ok (.int a), σ) => (match evE K FT n d m o σ with
        | some (.ok (.wire i), σ) => (match σ[i]? with
          | some (.wire b _) => some (.nxt, m, σ.set i (.wire b a))
          | _ => none)
        | _ => none)
      | _ => none := rfl
theorem evS_asgT {ks : List Nat} {es : List IE} : evS K FT (n + 1) d (.asgT ks es) m σ = stm (evEs K FT n d m es σ) m fun vs σ => match putAll ks.reverse vs.reverse m with
      | some m => some (.nxt, m, σ)
      | none => none := rfl
theorem evS_expr {e : IE} : evS K FT (n + 1) d (.expr e) m σ = stm (evE K FT n d m e σ) m fun v σ => match v with
      | .none => some (.nxt, m, σ)
      | .bool _ => some (.nxt, m, σ)
      | _ => none := rfl
theorem evS_ret {e : IE} : evS K FT (n + 1) d (.ret e) m σ = stm (evE K FT n d m e σ) m fun v σ => some (.ret v, m, σ) := rfl
theorem evS_ite {c : IE} {a b : List IS} : evS K FT (n + 1) d (.ite c a b) m σ = stm (evT K FT n d m c σ) m fun t σ => if t then evSs K FT n d a m σ else evSs K FT n d b m σ := rfl
theorem evS_whil {c : IE} {b : List IS} : evS K FT (n + 1) d (.whil c b) m σ = match evT K FT n d m c σ with
      | some (.ok true, σ) => (match evSs K FT n d b m σ with
        | some (.nxt, m, σ) => evS K FT n d (.whil c b) m σ
        | _ => none)
      | some (.ok false, σ) => some (.nxt, m, σ)
      | _ => none := rfl
theorem evS_for {ks : List Nat} {it : IE} {b : List IS} : evS K FT (n + 1) d (.forr ks it b) m σ = match evE K FT n d m it σ with
      | some (.ok o, σ) => (match iterA K σ o with
        | some vs => evFor K FT n d ks vs b m σ
        | none => none)
      | _ => none := rfl
theorem evS_range {k : Nat} {hi : IE} {b : List IS} : evS K FT (n + 1) d (.forRange k hi b) m σ = match evE K FT n d m hi σ with
      | some (.ok (.int h), σ) => if 0 ≤ h ∧ h ≤ 100000 then evFor K FT n d [k] ((List.range h.toNat).map fun i => AV.int (Int.ofNat i)) b m σ else none
      | _ => none := rfl
theorem evS_raise {e : IE} : evS K FT (n + 1) d (.raise e) m σ = match evE K FT n d m e σ with
      | some (.ok (.loc i), σ) => (match σ[i]? with
        | some (.exc C a .fresh) => if C = 59 ∨ C = 71 ∨ C = 83 then some (.exc i, m, σ.set i (.exc C a .bare)) else none
        | _ => none)
      | _ => none := rfl
theorem evS_try {b : List IS} {hs : List (Addr × Option Nat × HS)} : evS K FT (n + 1) d (.tryx b hs) m σ = match evSs K FT n d b m σ with
      | some (.exc i, m, σ) => evHs hs i m σ
      | r => r := rfl
theorem evFor_nil {ks : List Nat} {b : List IS} : evFor K FT (n + 1) d ks [] b m σ = some (.nxt, m, σ) := rfl
theorem evFor_cons {ks : List Nat} {v : AV} {vs : List AV} {b : List IS} : evFor K FT (n + 1) d ks (v :: vs) b m σ = match putT K ks v m with
    | some m => (match evSs K FT n d b m σ with
      | some (.nxt, m, σ) => evFor K FT n d ks vs b m σ
      | some (.exc i, m, σ) => some (.exc i, m, σ)
      | _ => none)
    | none => none := rfl
theorem evSs_cons {s : IS} {l : List IS} : evSs K FT (n + 1) d (s :: l) m σ = match evS K FT n d s m σ with
    | some (.nxt, m, σ) => evSs K FT n d l m σ
    | x => x := rfl
end
end Mine
end

section
open PySem PySem.W PyProof.Rows
open PySem.Sem (wp)
set_option maxRecDepth 100000
namespace Mine

noncomputable def holders : List String := Builtin.Bytes.decodersThatHold ++ ["bytearray.__contains__", "bytearray.__mod__", "bytearray.__rmod__", "_struct.pack_into.held", "bytearray.find.held"]
noncomputable def noHold : Code → Bool
  | .builtin id _ => !holders.contains id
  | _ => true
theorem noHold_b (id : String) (a : Args) : noHold (.builtin id a) = !holders.contains id := rfl
noncomputable def FineB (Γ : Ctx) : Prop := ∀ x ∈ Γ.below, noHold x.1 = true
noncomputable def Fine (Γ : Ctx) : Prop := noHold Γ.code = true ∧ FineB Γ

theorem Fine.enter {Γ : Ctx} (h : Fine Γ) (c : Code) (hd : Option Value) (p : Pos) : FineB (Γ.enter c hd p) := by
  intro x hx
  simp only [Ctx.enter] at hx
  rcases List.mem_cons.mp hx with rfl | hx
  · exact h.1
  · exact h.2 x hx

theorem none_bp : (none : Option Value) ≠ some byPass := nofun
noncomputable def wpS {α : Type} (M : Model) (A : Around) (t : Sem α) (Q : α → Shared → Prop) (E : Value → Shared → Prop) (s : Shared) : Prop :=
  ∀ Γ p, Γ.In A → Fine Γ → wp M Γ t (fun a _ s' => Q a s') (fun e _ s' => E e s') p s
noncomputable def codeS (M : Model) (A : Around) (c : Code) (R : Result → Shared → Prop) (s : Shared) : Prop :=
  ∀ Γ p, Γ.code = c → Γ.Below A → FineB Γ → wpCode M Γ R p s

section
variable {α β : Type} {M : Model} {A : Around} {Q : α → Shared → Prop} {E : Value → Shared → Prop} {R : Result → Shared → Prop} {s : Shared}

theorem wpS.of {t : Sem α} (h : wpAny M A t Q E s) : wpS M A t Q E s := fun Γ p hΓ _ => h Γ p hΓ
theorem wpS_pure {a : α} (h : Q a s) : wpS M A (pure a) Q E s := fun _ _ _ _ => h
theorem wpS_mono {t : Sem α} {Q' : α → Shared → Prop} {E' : Value → Shared → Prop} (h : wpS M A t Q E s) (hQ : ∀ a s, Q a s → Q' a s) (hE : ∀ e s, E e s → E' e s) : wpS M A t Q' E' s :=
  fun Γ p hΓ hF => Sem.wp_mono M Γ t (fun a _ s => hQ a s) (fun e _ s => hE e s) p s (h Γ p hΓ hF)
theorem wpS_q {t : Sem α} {Q' : α → Shared → Prop} (h : wpS M A t Q E s) (hQ : ∀ a s, Q a s → Q' a s) : wpS M A t Q' E s := wpS_mono h hQ fun _ _ x => x
theorem wpS_bind {m : Sem α} {f : α → Sem β} {Q : β → Shared → Prop} (h : wpS M A m (fun a s' => wpS M A (f a) Q E s') E s) : wpS M A (m >>= f) Q E s := fun Γ p hΓ hF => by
  rw [Sem.wp_bind']
  exact Sem.wp_mono M Γ m (fun a p' s' h' => h' Γ p' hΓ hF) (fun _ _ _ h' => h') p s (h Γ p hΓ hF)
theorem wpS_then {m : Sem α} {f : α → Sem β} {Q : β → Shared → Prop} (h : wpAny M A m (fun a s' => wpS M A (f a) Q E s') E s) : wpS M A (m >>= f) Q E s := wpS_bind (wpS.of h)
theorem wpS_onRaise {m : Sem α} {k : Value → Sem Unit} (h : wpS M A m Q (fun e s' => wpS M A (k e) (fun _ s'' => E e s'') E s') s) : wpS M A (m.onRaise k) Q E s := fun Γ p hΓ hF => by
  rw [Sem.wp_onRaise]
  exact Sem.wp_mono M Γ m (fun _ _ _ h' => h') (fun e p' s' h' => h' Γ p' hΓ hF) p s (h Γ p hΓ hF)
theorem wpS_attempt {m : Sem α} {Q : Except Value α → Shared → Prop} (h : wpS M A m (fun a => Q (.ok a)) (fun e => Q (.error e)) s) : wpS M A m.attempt Q E s := fun Γ p hΓ hF => by rw [Sem.wp_attempt]; exact h Γ p hΓ hF
theorem wpS_holding {vs : List Value} {m : Sem α} (h : wpS M A m Q E s) : wpS M A (holding vs m) Q E s := fun Γ p hΓ hF => by rw [Sem.wp_holding]; exact h Γ p hΓ hF
theorem wpS_keep {vs : List Value} {m : Sem α} (h : wpS M A m Q E s) : wpS M A (m.keep vs) Q E s := fun Γ p hΓ hF => by rw [Sem.wp_keep]; exact h Γ p hΓ hF
theorem wpS_standAt {pos : Pos} {Q : Unit → Shared → Prop} (h : Q () s) : wpS M A (standAt pos) Q E s := fun _ _ _ _ => h
theorem wpS_point {Q : Unit → Shared → Prop} (h : Q () s) : wpS M A point Q E s := fun _ _ _ _ => h
theorem wpS_stand {pos : Pos} {f : Unit → Sem β} {Q : β → Shared → Prop} (h : wpS M A (f ()) Q E s) : wpS M A (standAt pos >>= f) Q E s := wpS_bind (wpS_standAt h)
theorem wpS_operate {vs : List Value} {m : Sem Value} {Q : Value → Shared → Prop} (h : wpS M A m Q E s) : wpS M A (operate vs m) Q E s := fun Γ p hΓ hF => by rw [Sem.wp_operate]; exact h Γ p hΓ hF
theorem wpS_load {a : Addr} {o : Obj} {Q : Obj → Shared → Prop} (ho : s.heap.get? a = some o) (h : Q o s) : wpS M A (load a) Q E s := wpS.of (wpAny_load ho h)
theorem codeS_mono {c : Code} {R' : Result → Shared → Prop} (h : codeS M A c R s) (hR : ∀ r s, R r s → R' r s) : codeS M A c R' s := fun Γ p hc hΓ hF => wpCode_mono hR (h Γ p hc hΓ hF)
theorem wpS_run {c : Code} {h : Option Value} {Q : Flow → Shared → Prop} (hc : codeS M (A.mark h) c (fun r s' => match r with | .ok f => Q f s' | .error e => E e s') s) (hnb : h ≠ some byPass) :
    wpS M A (run c h) Q E s := fun Γ p hΓ hF => by rw [Sem.wp_run]; exact hc _ p rfl (hΓ.enter c h p hnb) (hF.enter c h p)
theorem wpS_runValue {c : Code} {Q : Value → Shared → Prop} (hc : codeS M A c (fun r s' => match r with | .ok (.ret v) => Q v s' | .ok _ => False | .error e => E e s') s) :
    wpS M A (runValue c) Q E s := fun Γ p hΓ hF => by rw [Sem.wp_runValue]; exact hc _ p rfl (hΓ.enter c none p (by intro x; cases x)) (hF.enter c none p)
theorem wpS_call {f : Value} {pos : List Value} {kw : List (Str × Value)} {Q : Value → Shared → Prop} (hc : codeS M A (.call f ⟨pos, kw⟩) (fun r s' => match r with | .ok (.ret v) => Q v s' | .ok _ => False | .error e => E e s') s) :
    wpS M A (call f pos kw) Q E s := wpS_runValue hc
theorem codeS_of_tree {c : Code} (hn : noHold c = true) (h : wpS M (A.under c) (M.den c) (fun fin s' => match fin with | .done f => R (.ok f) s' | .again c' => c'.quiet = true ∧ codeS M A c' R s') (fun e s' => R (.error e) s') s) :
    codeS M A c R s := fun Γ p hc hΓ hF => by
  rw [wpCode_iff_wp, hc]
  refine Sem.wp_mono M Γ _ (fun fin p' s' h' => ?_) (fun _ _ _ h' => h') p s (h Γ p (hc ▸ hΓ.in) ⟨hc ▸ hn, hF⟩)
  cases fin with
  | done f => exact h'
  | again c' => exact ⟨h'.1, h'.2 (Γ.goto c') p' rfl (hΓ.goto c') hF⟩
theorem wpS_runOwn {c : Code} {h : Option Value} {env : Env} {Q : Flow → Shared → Prop} (hc : codeS M (A.mark h) c (fun r s' => match r with | .ok f => Q f s' | .error e => cameBackBy M A env E e s') s) (hnb : h ≠ some byPass) :
    wpS M A (runOwn c env h) Q E s := by
  unfold runOwn
  exact wpS_onRaise (wpS_run (codeS_mono hc fun r s' x => by cases r with | ok f => exact x | error e => exact wpS.of x) hnb)

theorem exported_no {v : Value} {Q : Bool → Shared → Prop} (h : Q false s) : wpS M A (Builtin.Bytes.exported v) Q E s := fun Γ p _ hF => by
  unfold Builtin.Bytes.exported
  rw [Sem.wp_bind']
  show Q (List.any ((Γ.code, p) :: Γ.below) _) s
  rw [List.any_eq_false.mpr fun x hx => by
    have hn : noHold x.1 = true := by
      rcases List.mem_cons.mp hx with rfl | hx
      · exact hF.1
      · exact hF.2 x hx
    clear hx
    obtain ⟨c, p'⟩ := x
    cases c with
    | builtin id a =>
      obtain ⟨pos, kw⟩ := a
      rw [noHold_b] at hn
      have ne : ∀ w, holders.contains w = true → id ≠ w := fun w hw e => by rw [e, hw] at hn; cases hn
      have h1 := ne "bytearray.__contains__" (by decide +kernel)
      have h2 := ne "bytearray.__mod__" (by decide +kernel)
      have h3 := ne "bytearray.__rmod__" (by decide +kernel)
      have h4 := ne "_struct.pack_into.held" (by decide +kernel)
      have h5 := ne "bytearray.find.held" (by decide +kernel)
      delta Builtin.Bytes.exported.match_1
      show ¬ dite (id = "bytearray.__contains__") _ _ = true
      rw [dif_neg h1]
      show ¬ dite (id = "bytearray.__mod__") _ _ = true
      rw [dif_neg h2]
      show ¬ dite (id = "bytearray.__rmod__") _ _ = true
      rw [dif_neg h3]
      show ¬ dite (id = "_struct.pack_into.held") _ _ = true
      rw [dif_neg h4]
      show ¬ dite (id = "bytearray.find.held") _ _ = true
      rw [dif_neg h5]
      cases pos with
      | nil => exact Bool.noConfusion
      | cons y ys =>
        have hd : Builtin.Bytes.decodersThatHold.contains id = false := by
          rw [holders, List.contains_append, Bool.not_or, Bool.and_eq_true, Bool.not_eq_true'] at hn
          exact hn.1
        show ¬ (Builtin.Bytes.sameRef y v && Builtin.Bytes.decodersThatHold.contains id) = true
        rw [hd, Bool.and_false]
        exact Bool.noConfusion
    | _ => exact Bool.noConfusion]
  exact h
end
end Mine
end

section
open PySem PySem.W PySem.Calls PyProof.Rows
set_option maxRecDepth 100000
namespace Mine

theorem fine_caller : Fine ⟨.builtin "claim.caller" {}, none, none, [], none⟩ := ⟨by decide +kernel, fun _ h => nomatch h⟩

theorem ends_S {prog : Program} {w : World} {t : Sem Fin} {s : Shared} {R : Result → Shared → Prop} (z : s.asleep)
    (h : wpS (model prog w) callerA t (fun fin s' => ∃ f, fin = .done f ∧ R (.ok f) s' ∧ AllBare s'.gens) (fun e s' => R (.error e) s' ∧ AllBare s'.gens) s) :
    ∃ n r s' s'', runN (denote table) prog w n s ⟨t, .builtin "claim.caller" {}, default, []⟩ = .halted (outcomeOf r) s' ∧
      schedN (denote table) prog w n (.single s ⟨t, .builtin "claim.caller" {}, default, []⟩) = .halted (outcomeOf r) s' ∧ s'.forget = s''.forget ∧ R r s'' := by
  have hw := h _ default caller_in fine_caller
  have := wp_halts_full (M := model prog w) (R := R) z (Sem.wp_mono _ _ _ (fun fin p' s' q => by
    obtain ⟨f, rfl, a, b⟩ := q
    exact ⟨a, leftWithCleanup_false_of_bare b⟩) (fun e p' s' q => ⟨q.1, leftWithCleanup_false_of_bare q.2⟩) _ _ hw)
  obtain ⟨n, r, s1, s2, a, b, c, d⟩ := this
  exact ⟨n, r, s2, s1, b, a, c, d⟩

noncomputable abbrev WalkS (q : Program) (loose : List Str) (XP : (Str → Option Value) → Heap → Prop) (YP : World → Heap → Prop) (r : RowW) (d : DefRec) (kwd : List (Str × Expr)) : Prop :=
  ∀ (w : World) (s₀ s₁ : Shared) (mg mb : Str → Option Value), Ground q loose r.records XP w s₀ mg mb s₁.heap → YP w s₁.heap → ∀ (a : Addr) (o : Obj) (pm cd doc dV kV : Value), s₁.heap.get? a = some o →
    o.data = .func { docDef d.name d.params d.body d.scope pm cd doc with defaults := dV, kwdefaults := kV } → s₁.heap.CodeRec cd d.name → Dflts mg s₁.heap d.params kwd dV kV → mg d.name = some (.ref a) → s₁.gens = #[] →
    ∀ (args : List WData) (vals : List Value) (as : List Addr), r.claim.pre args = true → WData.layableAll args = true → ReadsAllW r.records (classAt s₀.heap) s₁.heap vals args as → WellAll w.params s₁.heap vals args → (∀ a ∈ as, (a == sysModules) = false) →
      wpS (model r.prog w) callerA (PySem.call (.ref a) vals) (fun v s' => GoodWG r.claim (classAt s₀.heap) (ExcName.means s₀.heap) args s₁ (.ok (.ret v)) s')
        (fun e s' => GoodWG r.claim (classAt s₀.heap) (ExcName.means s₀.heap) args s₁ (.error e) s') s₁

theorem PySem.W.holds_open {r : OpenRow} {q : Program} {loose : List Str} {Xt : Shared → Bool} {XP : (Str → Option Value) → Heap → Prop} {α : Type} {Yf : Shared → α} {Ya : World → α} {YP : World → Heap → Prop} {d : DefRec} {kwd : List (Str × Expr)} {N : Nat}
    (left : LeftO r.prog q loose Xt Yf Ya N) (hY : ∀ w s, Yf s = Ya w → YP w s.heap) (hYk : ∀ w h h', YP w h → (∀ b o, h.get? b = some o → h'.get? b = some o) → YP w h')
    (hX : ∀ s, Xt s = true → XP (s.heap.nsMap mainGlobals) s.heap) (hXk : ∀ mg h h', XP mg h → (∀ b o, h.get? b = some o → h'.get? b = some o) → XP mg h')
    (hdef : defOf q r.name = some (d, kwd)) (hp : r.prog.theDef r.name = some (d.params, d.body, d.scope)) (hk : kwWritten? d.params.kwonlyargs d.params.kw_defaults = some kwd) (hRf : ∀ s, Xt s = true → RecFacts r.records s.heap) (hwr : (!r.writes || r.records.isEmpty) = true)
    (k1 : r.wellSaid = true) (ok : (chainsOk q && opensWell r.prog && (frees r.toRowW && r.within.isEmpty)) = true) (hb : r.prog.bare) (hw : r.toRowW.promised)
    (call : WalkS q loose XP YP r.toRowW d kwd) : r.Holds := by
  rw [Bool.and_eq_true, Bool.and_eq_true, Bool.and_eq_true] at ok
  obtain ⟨⟨hch, o1⟩, k5, k6⟩ := ok
  obtain ⟨hsame, hu, ha, hap, hm⟩ := frees_parts k5
  refine ⟨k1, hw, ⟨hb, o1, by show r.makers.map _ = []; rw [hm]; rfl⟩, hw.witness, fun w => ?_⟩
  have B := left.behind (XP := fun mg h => XP mg h ∧ RecFacts r.records h) (fun s hs => ⟨hX s hs, hRf s hs⟩) hch w
  refine ⟨B.1, fun s' hs' => ?_⟩
  refine cont fun PP kq => ?_
  obtain ⟨s₀, hf, hg0, s, hT, hz, hgens, hg, G, y⟩ := B.2 s' hs'
  have G0 : Ground q loose [] XP w s (s.heap.nsMap mainGlobals) (s.heap.nsMap builtinsNs) s.heap := { G with X := G.X.1 }
  have RF := G.X.2
  have G1 : Ground q loose r.records XP w s _ _ s.heap := RF.ground G0
  refine kq ⟨s₀, hf, hg0, s, hT, fun n hn => ?_, RF.1, RF.2.1, ?_⟩
  · obtain rfl : n = r.name := by split at hn <;> simp_all
    exact pinned_of_view hg G0 hdef hp hk
  have hgens : s.gens = #[] := Array.eq_empty_of_size_eq_zero (beq_iff_eq.mp hgens)
  intro args hpre hlay ord hord
  refine cont fun PP2 kq2 => ?_
  obtain ⟨⟨vs, s₁⟩, hlaid⟩ := Option.isSome_iff_exists.mp (layAllW_isSome (P := w.params) (ord := ord) G1.has args r.args s (pre_splitW hpre).1)
  have keeps := layAllW_keeps _ _ _ hlaid
  have hal := layAllW_rest _ _ _ hlaid
  obtain ⟨as, hrd, hin, hold⟩ := reads_layAllW hord _ _ _ hlaid hlay s₁.heap fun _ _ e => e
  have L : Laid r.records w s s₁ args vs as := ⟨⟨ord, hord, hlaid⟩, hrd, hin, hold, keeps, hal.1.trans hgens, hal.2.2.1⟩
  have G₁ := G1.keeps hXk keeps
  obtain ⟨a, o, pm, cd, doc, dV, kV, h1, h2, h3, h4, h5⟩ := G₁.fn hdef
  have walk := call w s s₁ _ _ G₁ (hYk _ _ _ (hY w s y) keeps) a o pm cd doc dV kV h2 h3 h4 h5 (defOf_name hdef ▸ h1) L.gens args vs as hpre hlay L.reads L.well (L.low G1.low)
  have hi := ident_freeW hu ha hap
  have hwi : r.claim.within = [] := List.isEmpty_iff.mp k6
  let kept : Heap → Prop := fun h' => r.writes = true → namesKept r.prog r.keeps s.heap h' ∧ ∀ x ∈ r.records, ∀ a, classAt s.heap x.1 = some a → recordClass h' a x.1 (x.2.map (·.1)) = true
  have good : ∀ res s', GoodWG r.claim (classAt s.heap) (ExcName.means s.heap) args s₁ res s' → (r.claim.Ends s args vs s₁ res s' ∧ s'.os = s.os ∧ kept s'.heap) ∧ AllBare s'.gens := fun res s' g => by
    have z := g.laid (c := r.claim) hsame hwi hi L
    exact ⟨⟨z.1, z.2.1, fun q => ⟨namesKept_of hT hg r.keeps keeps g.2.1.old, noTable hwr q⟩⟩, z.2.2⟩
  obtain ⟨k, res, s', s'', hrun, hsched, hfo, hcase, hos, hkp⟩ := ends_S (prog := r.prog) (w := w) (s := s₁)
    (t := do match ← nsGet mainNs r.name with
      | some f => do PySem.ret (← PySem.call f vs)
      | none => unsupported "claim.caller:no-such-global")
    (R := fun res s' => r.claim.Ends s args vs s₁ res s' ∧ s'.os = s.os ∧ kept s'.heap) (Shared.asleep_of_life hal.2.2.2 hz)
    (wpS_then (wpAny_nsGet G₁.T.g (by
      rw [h1]
      exact wpS_bind (wpS_mono walk (fun v s' g => wpS_pure ⟨_, rfl, good _ _ g⟩) fun e s' g => good _ _ g))))
  obtain ⟨eh, _, _, eo, _⟩ := Shared.forget_eq hfo
  refine kq2 ⟨vs, s₁, hlaid, k, _, s', hsched, ?_, fun _ i x hx => ?_, ?_, ?_, Shared.rest_eq (eo.trans hos)⟩
  · rcases hcase.congr eh with ⟨v, rfl, d1, d2, d3, d4, d5⟩ | ⟨e, ob, cls, rfl, d1, d2, d3, d4, d5⟩
    · exact .inl ⟨v, rfl, d1, d2, d3, fun b o y _ => d4 b o y, d5⟩
    · exact .inr ⟨e, ob, cls, rfl, d1, d2, d3, d4, fun b o y _ => d5 b o y⟩
  · rw [hgens] at hx; simp at hx
  · rw [eh]; exact hkp
  · exact congrArg Life.seen ((runN_life _ _ _ hrun).trans hal.2.2.2)
end Mine
end

section
open PySem PySem.W PyProof.Rows
set_option maxRecDepth 100000
set_option maxHeartbeats 8000000
namespace Mine
section
-- the written heap alone, without the head: k_head lays it, and the head's own step is put off
local macro_rules | `(tactic| o_head $_) => `(tactic| exact $(Lean.mkIdent `h))
set_option Elab.async false in
theorem grab (h : PySem.Challenge.rw_or0063_01.row.Holds) : PySem.Challenge.rw_or0063_01.row.Holds := by
  w_on; k_head
end
end Mine
end

section
open PySem PySem.W PyProof.Rows
set_option maxRecDepth 100000
set_option genInjectivity false
namespace Mine

structure Cx where
  A : Around
  env : Env
  L : Addr
  Lf : Addr
  locs : List Str
  sc : Scope

structure CxOk (c : Cx) : Prop where
  hk : c.env.scope.kind = .function
  names : c.env.scope.names = c.sc.names
  loc : c.env.locals = c.L
  glob : c.env.globals = mainGlobals
  blt : c.env.builtins = builtinsNs
  frame : c.env.frame = some c.Lf
  nd : c.locs.Nodup
  hh : c.A.handled = none

noncomputable def Slt (P : Obj → Prop) : Prop := (∀ o, P o → ∀ vs, o.data ≠ .fields vs) ∧ ∀ o sl, P o → P { o with slots := sl }
theorem Slt.frm (m : Str → Option Value) : Slt (frmP m) := ⟨fun o ⟨es, ep, hd, _⟩ vs q => (by rw [hd] at q; cases q), fun o sl ⟨es, ep, hd, r⟩ => ⟨es, ep, hd, r⟩⟩
noncomputable def FrIn (fr : List Fm) (envs : List Env) : Prop := ∀ env ∈ envs, env.scope.kind ≠ .module ∧ ∃ L P, env.frame = some L ∧ (L, P) ∈ fr ∧ Slt P
theorem FrIn.head {L : Addr} {P P' : Obj → Prop} {fr : List Fm} {envs : List Env} (x : FrIn ((L, P) :: fr) envs) (h : Slt P') : FrIn ((L, P') :: fr) envs := fun env he => by
  obtain ⟨hk, L₁, P₁, hf, hm, hs⟩ := x env he
  refine ⟨hk, ?_⟩
  rcases List.mem_cons.mp hm with q | hm
  · cases q; exact ⟨L, P', hf, .head _, h⟩
  · exact ⟨L₁, P₁, hf, .tail _ hm, hs⟩
theorem FrIn.more {p : Fm} {fr : List Fm} {envs : List Env} (x : FrIn fr envs) : FrIn (p :: fr) envs := fun env he =>
  let ⟨hk, L, P, hf, hm, hs⟩ := x env he; ⟨hk, L, P, hf, .tail _ hm, hs⟩
noncomputable def Room (A : Around) (d : Nat) : Prop := A.depth + 3 * d + 3 < recursionLimit ∧ A.units + 20 * d + 100 < cLine

noncomputable def OptR (g : Gh) : Option AV → Value → Prop
  | none, v => v = .none
  | some a, v => VR g a v
theorem OptR.mono {g g' : Gh} (k : g.le g') : ∀ {a : Option AV} {v : Value}, OptR g a v → OptR g' a v
  | none, _, h => h
  | some _, _, h => VR.mono k h

noncomputable def MR (g : Gh) (locs : List Str) (m : Lo) (mm : Str → Option Value) : Prop := ∀ (i : Nat) (x : Str) (v : AV), locs[i]? = some x → m[i]? = some (some v) → ∃ u, mm x = some u ∧ VR g v u
theorem MR.mono {g g' : Gh} {locs : List Str} {m : Lo} {mm : Str → Option Value} (x : MR g locs m mm) (k : g.le g') : MR g' locs m mm := fun i x' v h h' => let ⟨u, hu, r⟩ := x i x' v h h'; ⟨u, hu, r.mono k⟩

noncomputable def ExTr (g : Gh) (fr : List Fm) (h : Heap) (e : Addr) (fl : Value) : Prop := ∃ oe vs T oT ts, h.get? e = some oe ∧ oe.data = .fields vs ∧ vs.size = 6 ∧ vs[1]? = some (.ref T) ∧ g.frz T = none ∧ ¬ g.mut fr T ∧ h.get? T = some oT ∧ oT.data = .fields ts ∧ ts[3]? = some fl
noncomputable def ExNew (h : Heap) (e : Addr) : Prop := ∃ oe vs, h.get? e = some oe ∧ oe.data = .fields vs ∧ vs.size = 6 ∧ vs[1]? = some .none
noncomputable def ExSt (g : Gh) (fr : List Fm) (Lf : Addr) (h : Heap) (e : Addr) : Prop := ExNew h e ∨ ExTr g fr h e .none ∨ ExTr g fr h e (rawInt Lf)

structure St (g₀ : Heap) (c : Cx) (fr : List Fm) (d : Nat) (m : Lo) (σ : List TO) (g : Gh) (mm : Str → Option Value) (h : Heap) : Prop where
  I : Inv g₀ g ((c.L, frmP mm) :: fr) σ h
  M : MR g c.locs m mm
  F : ∃ envs, c.A.frames = some envs ∧ FrIn ((c.L, frmP mm) :: fr) envs
  R : Room c.A d
theorem St.next {g₀ : Heap} {c : Cx} {fr : List Fm} {d : Nat} {m : Lo} {σ σ' : List TO} {g g' : Gh} {mm : Str → Option Value} {h h' : Heap} (x : St g₀ c fr d m σ g mm h) (k : g.le g') (I : Inv g₀ g' ((c.L, frmP mm) :: fr) σ' h') : St g₀ c fr d m σ' g' mm h' := ⟨I, x.M.mono k, x.F, x.R⟩
theorem St.fr {g₀ : Heap} {c : Cx} {fr : List Fm} {d : Nat} {m : Lo} {σ : List TO} {g : Gh} {mm : Str → Option Value} {h : Heap} (x : St g₀ c fr d m σ g mm h) : Fr g₀ c.L h mm where
  ns := frmP.ns (x.I.fs _ (.head _)).1
  keep := fun b o e => x.I.fz b o (x.I.base b o e)
  above := (x.I.fs _ (.head _)).2.2

structure Fin {α β : Type} (rel : Gh → α → β → Prop) (g₀ : Heap) (c : Cx) (fr : List Fm) (mm : Str → Option Value) (r : Ex α) (σ' : List TO) (g : Gh) (s : Shared) (Q : β → Shared → Prop) (E : Value → Shared → Prop) : Prop where
  ok : ∀ a, r = .ok a → ∀ v g' h' tk, g.le g' → Inv g₀ g' ((c.L, frmP mm) :: fr) σ' h' → rel g' a v → Q v { s with heap := h', toks := tk }
  ex : ∀ i, r = .exc i → ∀ e g' h' tk, g.le g' → Inv g₀ g' ((c.L, frmP mm) :: fr) σ' h' → g'.loc i = some e → Rsd σ' i → ExTr g' ((c.L, frmP mm) :: fr) h' e .none → E (.ref e) { s with heap := h', toks := tk }
theorem Fin.later {α β : Type} {rel : Gh → α → β → Prop} {g₀ : Heap} {c : Cx} {fr : List Fm} {mm : Str → Option Value} {r : Ex α} {σ' : List TO} {g g₁ : Gh} {s : Shared} {Q : β → Shared → Prop} {E : Value → Shared → Prop} {h₁ : Heap} {tk₁ : Nat}
    (x : Fin rel g₀ c fr mm r σ' g s Q E) (k : g.le g₁) : Fin rel g₀ c fr mm r σ' g₁ { s with heap := h₁, toks := tk₁ } Q E :=
  ⟨fun a e v g' h' tk l I q => x.ok a e v g' h' tk (k.trans l) I q, fun i e a g' h' tk l I q z t => x.ex i e a g' h' tk (k.trans l) I q z t⟩

noncomputable def Sub {α β : Type} (prog : Program) (w : World) (rel : Gh → α → β → Prop) (g₀ : Heap) (c : Cx) (fr : List Fm) (d : Nat) (m : Lo) (t : Sem β) (x : List TO → R α) : Prop :=
  ∀ {σ r σ' g mm s Q E}, x σ = some (r, σ') → St g₀ c fr d m σ g mm s.heap → Fin rel g₀ c fr mm r σ' g s Q E → wpS (model prog w) c.A t Q E s

theorem bnd_split {α β : Type} {x : R α} {f : α → List TO → R β} {r : Ex β} {σ' : List TO} (h : bnd x f = some (r, σ')) : (∃ a σ₁, x = some (.ok a, σ₁) ∧ f a σ₁ = some (r, σ')) ∨ ∃ i, x = some (.exc i, σ') ∧ r = .exc i := by
  cases x with
  | none => simp at h
  | some p =>
    obtain ⟨a, σ₁⟩ := p
    cases a with
    | ok a => exact .inl ⟨a, σ₁, rfl, h⟩
    | exc i => simp only [bnd, Option.some.injEq, Prod.mk.injEq] at h; exact .inr ⟨i, by rw [h.2], h.1.symm⟩

section
variable {prog : Program} {w : World} {g₀ : Heap} {c : Cx} {fr : List Fm} {d : Nat} {m : Lo}

theorem Sub.then {α β α' β' : Type} {rel : Gh → α → β → Prop} {rel' : Gh → α' → β' → Prop} {t : Sem β} {x : List TO → R α} (hs : Sub prog w rel g₀ c fr d m t x) {f : α → List TO → R α'} {σ σ' : List TO} {r : Ex α'} {g : Gh} {mm : Str → Option Value} {s : Shared}
    {Q : β → Shared → Prop} {Q' : β' → Shared → Prop} {E : Value → Shared → Prop} (hx : bnd (x σ) f = some (r, σ')) (st : St g₀ c fr d m σ g mm s.heap) (fin : Fin rel' g₀ c fr mm r σ' g s Q' E)
    (k : ∀ a v σ₁ g₁ h₁ tk, f a σ₁ = some (r, σ') → g.le g₁ → St g₀ c fr d m σ₁ g₁ mm h₁ → rel g₁ a v → Fin rel' g₀ c fr mm r σ' g₁ { s with heap := h₁, toks := tk } Q' E → Q v { s with heap := h₁, toks := tk }) :
    wpS (model prog w) c.A t Q E s := by
  rcases bnd_split hx with ⟨a, σ₁, h1, h2⟩ | ⟨i, h1, rfl⟩
  · refine hs h1 st ⟨fun a' e v g' h' tk l I q => ?_, fun _ e => (nomatch e)⟩
    cases e
    exact k a v σ₁ g' h' tk h2 l (st.next l I) q (fin.later l)
  · exact hs h1 st ⟨fun _ e => (nomatch e), fun j e => (by cases e; exact fin.ex i rfl)⟩

theorem Fin.pure {α β : Type} {rel : Gh → α → β → Prop} {a : α} {v : β} {σ : List TO} {g : Gh} {mm : Str → Option Value} {s : Shared} {Q : β → Shared → Prop} {E : Value → Shared → Prop} {tk : Nat} (fin : Fin rel g₀ c fr mm (.ok a) σ g s Q E) (st : St g₀ c fr d m σ g mm s.heap) (q : rel g a v) : Q v { s with toks := tk } :=
  fin.ok a rfl v g s.heap tk (Gh.le.refl g) st.I q
theorem Fin.made {α β : Type} {rel : Gh → α → β → Prop} {a : α} {v : β} {σ : List TO} {g : Gh} {mm : Str → Option Value} {s : Shared} {Q : β → Shared → Prop} {E : Value → Shared → Prop} {tk : Nat} {h' : Heap} (fin : Fin rel g₀ c fr mm (.ok a) σ g s Q E) (st : St g₀ c fr d m σ g mm s.heap)
    (k : ∀ b o, s.heap.get? b = some o → h'.get? b = some o) (q : rel (g.grown ((c.L, frmP mm) :: fr) h') a v) : Q v { s with heap := h', toks := tk } :=
  fin.ok a rfl v _ h' tk (st.I.grown_le k) (st.I.grow k) q
end

structure TopOk (K : Frag) (p : Program) (loose : List Str) (mean : ExcName → Option Value) (mg mb : Str → Option Value) (g₀ : Heap) : Prop where
  X : K.In g₀
  T : Top p loose mean mg mb g₀

section
variable {prog : Program} {w : World} {K : Frag} {p : Program} {loose : List Str} {mean : ExcName → Option Value} {mg mb : Str → Option Value} {g₀ : Heap} {c : Cx} {fr : List Fm} {d : Nat} {m : Lo} {σ : List TO} {g : Gh} {mm : Str → Option Value}

theorem kindOf_eq (C : CxOk c) (x : Str) : c.env.kindOf x = c.sc.names.lookup x := by rw [Env.kindOf, C.names]

theorem name_local {s : Shared} {x : Str} {pos : Pos} {v : Value} {Q : Value → Shared → Prop} {E : Value → Shared → Prop} (C : CxOk c) (st : St g₀ c fr d m σ g mm s.heap) (hx : c.sc.names.lookup x = some .local) (hd : x ≠ Str.ofString "__debug__") (hv : mm x = some v) (h : Q v s) :
    wpAny (model prog w) c.A (eval (.Name x pos) c.env) Q E s :=
  wpAny_Name (wpAny_loadName_local C.hk ((kindOf_eq C x).trans hx) (C.loc ▸ st.fr.ns) hv h) (by simpa using hd)

theorem name_global {s : Shared} {x : Str} {pos : Pos} {v : Value} {Q : Value → Shared → Prop} {E : Value → Shared → Prop} (O : TopOk K p loose mean mg mb g₀) (C : CxOk c) (st : St g₀ c fr d m σ g mm s.heap) (hx : c.sc.names.lookup x = some .globalImplicit) (hd : x ≠ Str.ofString "__debug__") (hv : globV K x = some v) (h : Q v s) :
    wpAny (model prog w) c.A (eval (.Name x pos) c.env) Q E s := by
  refine Calls.Name_function_global C.hk ((kindOf_eq C x).trans hx) ?_ (by simpa using hd)
  have hg : s.heap.Ns c.env.globals mg := C.glob ▸ O.T.g.keeps st.fr.keep
  unfold globV at hv
  split at hv
  · rename_i u e
    cases hv
    exact Calls.loadGlobal_global hg (mg_of O.X O.T.g e) h
  · rename_i e
    split at hv
    · cases hv
    · rename_i hn
      exact Calls.loadGlobal_builtin hg (mg_none_of O.X O.T.g e) (C.blt ▸ O.T.b.keeps st.fr.keep) ((O.T.builtins x hn).trans hv) h
  · cases hv

theorem VR.toAV {g : Gh} : ∀ (v : Value), VR g (toAV v) v
  | .none => rfl
  | .bool _ => rfl
  | .int _ t => ⟨t, rfl⟩
  | .str s t => ⟨t, rfl⟩
  | .bytes b t => ⟨t, rfl⟩
  | .ellipsis => rfl
  | .notImplemented => rfl
  | .float _ _ => rfl
  | .type _ => rfl
  | .builtin _ => rfl
  | .ref _ => rfl
end
end Mine
end

section
open PySem PySem.W PyProof.Rows
set_option maxRecDepth 100000
namespace Mine

noncomputable def opOf : BK → Operator
  | .add => .Add
  | .sub => .Sub
  | .mul => .Mult
  | .mod => .Mod
  | .div => .FloorDiv
theorem no_of {α : Type} {k : α} {P : Prop} (h : none = some k) : P := by cases h
theorem opOf_eq {op : Operator} {k : BK} (h : cBin op = some k) : op = opOf k := by cases op <;> first | exact no_of h | (obtain rfl := Option.some.inj h; rfl)

section
variable {prog : Program} {w : World} {g₀ : Heap} {c : Cx} {fr : List Fm} {d : Nat} {m : Lo} {σ : List TO} {g : Gh} {mm : Str → Option Value} {s : Shared} {Q : Value → Shared → Prop} {E : Value → Shared → Prop}

theorem bin_ok {op : Operator} {k : BK} {a b r : AV} {u v : Value} (hk : cBin op = some k) (h : binA k a b = some r) (ha : VR g a u) (hb : VR g b v) (st : St g₀ c fr d m σ g mm s.heap) (fin : Fin VR g₀ c fr mm (.ok r) σ g s Q E) :
    wpAny (model prog w) c.A (binaryOp op u v) Q E s := by
  obtain rfl := opOf_eq hk
  cases k
  · dsimp only [binA] at h
    split at h
    · obtain ⟨y, hb', h'⟩ := bind_of h
      obtain rfl := int_of hb'
      obtain ⟨t, rfl⟩ := ha; obtain ⟨t', rfl⟩ := hb; cases h'
      exact add_int (fin.pure st ⟨_, rfl⟩)
    · rename_i x
      obtain ⟨y, hb', h'⟩ := bind_of h
      obtain rfl := str_of hb'
      obtain ⟨t, rfl⟩ := ha; obtain ⟨t', rfl⟩ := hb
      split at h'
      · rename_i e; cases h'
        refine PyProof.Rows.add_str (fun t tk => fin.pure st ⟨t, ?_⟩) ?_
        · show Value.str (Str.append _ _) t = _
          simp [Str.append]
        · show x.toArray.size + y.toArray.size ≤ 2 ^ 24
          simp only [List.size_toArray]; omega
      · cases h'
    · obtain ⟨y, hb', h'⟩ := bind_of h
      obtain rfl := byt_of hb'
      obtain ⟨t, rfl⟩ := ha; obtain ⟨t', rfl⟩ := hb
      split at h'
      · rename_i e; cases h'
        refine KBy.add_bytes (by simp only [List.size_toArray]; omega) (fun t tk => fin.pure st ⟨t, ?_⟩)
        simp
      · cases h'
    · cases h
  all_goals
    obtain ⟨x, y, rfl, rfl, h'⟩ := ints2_of h
    obtain ⟨t, rfl⟩ := ha; obtain ⟨t', rfl⟩ := hb
  · cases h'
    exact sub_int' (fin.pure st ⟨_, rfl⟩)
  · split at h'
    · rename_i e; cases h'; subst e
      exact P.mul_int (fin.pure st ⟨_, rfl⟩) (IntMulOk.of_right (by decide +kernel))
    · cases h'
  · split at h'
    · cases h'
    · rename_i e; cases h'
      exact mod_int' e (fin.pure st ⟨_, rfl⟩)
  · split at h'
    · rename_i e; cases h'; subst e
      exact floordiv_int (by decide) (fin.pure st ⟨_, rfl⟩) (.inl (PyProof.noPylong_small (by decide)))
    · cases h'
end
end Mine

namespace Mine
theorem VRs.toAV {g : Gh} : ∀ (vs : List Value), VRs g (vs.map toAV) vs
  | [] => rfl
  | v :: vs => ⟨v, vs, rfl, VR.toAV v, VRs.toAV vs⟩
theorem strs_are {g : Gh} {as : List AV} : ∀ {us : List Value} {l : List (List Nat)}, strsOf as = some l → VRs g as us → StrsAre us (l.map fun x => ⟨x.toArray⟩) := by
  induction as with
  | nil => intro us l h r; cases h; rw [show us = [] from r]; exact .nil
  | cons a as ih =>
    intro us l h r
    obtain ⟨v, vs, rfl, q, r⟩ := r
    cases a
    case str x =>
      obtain ⟨l', h', rfl⟩ := Option.map_eq_some_iff.mp h
      obtain ⟨t, rfl⟩ := q
      exact .cons _ t (ih h' r)
    all_goals exact no_of h
theorem ints_are {g : Gh} {as : List AV} : ∀ {us : List Value} {l : List Int}, intsOf as = some l → VRs g as us → IntsAre us l := by
  induction as with
  | nil => intro us l h r; cases h; rw [show us = [] from r]; exact .nil
  | cons a as ih =>
    intro us l h r
    obtain ⟨v, vs, rfl, q, r⟩ := r
    cases a
    case int x =>
      obtain ⟨l', h', rfl⟩ := Option.map_eq_some_iff.mp h
      obtain ⟨t, rfl⟩ := q
      exact .cons _ t (ih h' r)
    all_goals exact no_of h

theorem tup_at {K : Frag} {g₀ : Heap} {g : Gh} {fr : List Fm} {σ : List TO} {h : Heap} {a : AV} {u : Value} {vs : List AV} (X : K.In g₀) (I : Inv g₀ g fr σ h) (r : VR g a u) (e : tupItems K a = some vs) :
    ∃ x items n, u = .ref x ∧ g.frz x = some (tupObj items n) ∧ VRs g vs items.toList := by
  unfold tupItems at e
  split at e
  · cases e
    obtain ⟨x, items, n, q, f, z⟩ := r
    exact ⟨x, items, n, q, f, z⟩
  · rename_i x
    split at e
    · rename_i items n sl hl
      split at e
      · rename_i hsl
        cases e
        have : sl = #[] := by simpa using hsl
        subst this
        exact ⟨_, items, n, r, I.base _ _ (X _ _ hl), VRs.toAV _⟩
      · cases e
    · cases e
  · cases e
theorem isTup_of {h : Heap} {x : Addr} {items : Array Value} {n : Nat} (e : h.get? x = some (tupObj items n)) : IsTup h x items := ⟨_, e, rfl, n, rfl⟩
theorem isList_of {h : Heap} {x : Addr} {items : Array Value} {n : Nat} (e : h.get? x = some (lstObj items n)) : h.IsList x items := ⟨_, e, rfl, n, rfl⟩

mutual
theorem reads_of {g : Gh} {h : Heap} (k : ∀ b o, g.frz b = some o → h.get? b = some o) : ∀ {a : AV} {d : PyData} {v : Value}, dataT a = some d → VR g a v → ∃ as, Reads h v d as
  | .none, d, v, e, r => by cases e; rw [show v = .none from r]; exact ⟨_, .none⟩
  | .int i, d, v, e, ⟨t, r⟩ => by cases e; subst r; exact ⟨_, .int i t⟩
  | .tup vs, d, v, e, ⟨x, items, n, q, f, r⟩ => by
    simp only [dataT, Option.map_eq_some_iff] at e
    obtain ⟨ds, hd, rfl⟩ := e
    obtain ⟨as, hr⟩ := readsAll_of k hd r
    subst q
    exact ⟨as, .tuple (k _ _ f) rfl rfl hr⟩
  | .bool _, _, _, e, _ => by simp [dataT] at e
  | .str _, _, _, e, _ => by simp [dataT] at e
  | .bytes _, _, _, e, _ => by simp [dataT] at e
  | .val _, _, _, e, _ => by simp [dataT] at e
  | .loc _, _, _, e, _ => by simp [dataT] at e
  | .wire _, _, _, e, _ => by simp [dataT] at e
  | .fl _, _, _, e, _ => by simp [dataT] at e
theorem readsAll_of {g : Gh} {h : Heap} (k : ∀ b o, g.frz b = some o → h.get? b = some o) : ∀ {as : List AV} {ds : List PyData} {vs : List Value}, dataTs as = some ds → VRs g as vs → ∃ l, ReadsAll h vs ds l
  | [], ds, vs, e, r => by cases e; rw [show vs = [] from r]; exact ⟨_, .nil⟩
  | a :: as, ds, vs, e, ⟨v, vs', q, r, rs⟩ => by
    simp only [dataTs, Option.bind_eq_some_iff, Option.map_eq_some_iff] at e
    obtain ⟨d, hd, ds', hds, rfl⟩ := e
    obtain ⟨l1, h1⟩ := reads_of k hd r
    obtain ⟨l2, h2⟩ := readsAll_of k hds rs
    subst q
    exact ⟨_, .cons h1 h2⟩
end
theorem readsTop_of {K : Frag} {g₀ : Heap} {g : Gh} {fr : List Fm} {σ : List TO} {h : Heap} {a : AV} {u : Value} {d : PyData} (X : K.In g₀) (I : Inv g₀ g fr σ h) (r : VR g a u) (e : dataTop K a = some d) : ∃ as, Reads h u d as := by
  unfold dataTop at e
  split at e
  · rename_i v
    simp only [Option.bind_eq_some_iff, Option.map_eq_some_iff] at e
    obtain ⟨vs, h1, ds, h2, rfl⟩ := e
    obtain ⟨x, items, n, rfl, f, z⟩ := tup_at X I r h1
    obtain ⟨as, hr⟩ := readsAll_of I.fz h2 z
    exact ⟨as, .tuple (I.fz _ _ f) rfl rfl hr⟩
  · exact reads_of I.fz e r

theorem reads_plain {g : Gh} {h : Heap} : ∀ {as : List AV} {vs : List Value}, as.all plainA = true → VRs g as vs → ∃ ds l, ReadsAll h vs ds l ∧ ds.length = as.length ∧ PyData.canLayAll0 ds = true ∧ PyData.depthAll ds = 0
  | [], vs, _, r => by rw [show vs = [] from r]; exact ⟨[], [], .nil, rfl, rfl, rfl⟩
  | a :: as, vs, e, ⟨v, vs', q, r, rs⟩ => by
    rw [List.all_cons, Bool.and_eq_true] at e
    obtain ⟨ds, l, h1, h2, h3, h4⟩ := reads_plain (h := h) e.2 rs
    subst q
    cases a with
    | int i =>
      obtain ⟨t, rfl⟩ := r
      exact ⟨.int i :: ds, _, .cons (.int i t) h1, by simp [h2], by simp [PyData.canLayAll0, PyData.canLay0, h3], by simp [PyData.depthAll, PyData.depth, h4]⟩
    | str x =>
      obtain ⟨t, rfl⟩ := r
      refine ⟨.str ⟨x.toArray⟩ :: ds, _, .cons (.str _ t) h1, by simp [h2], ?_, by simp [PyData.depthAll, PyData.depth, h4]⟩
      have hx : PyData.strOk ⟨x.toArray⟩ = true := by
        simp only [plainA, List.all_eq_true, decide_eq_true_eq] at e
        simp only [PyData.strOk, List.all_toArray, List.all_eq_true, decide_eq_true_eq]
        exact fun c hc => Nat.lt_trans (e.1 c hc) (by decide)
      simp [PyData.canLayAll0, PyData.canLay0, h3, hx]
    | _ => simp [plainA] at e
end Mine
end

section
open PySem PySem.W PyProof.Rows
set_option maxRecDepth 100000
namespace Mine

noncomputable def cmpOf : CK → CmpOp
  | .eq => .Eq
  | .ne => .NotEq
  | .lt => .Lt
  | .le => .LtE
  | .gt => .Gt
  | .ge => .GtE
  | .is => .Is
  | .inn => .In
  | .nin => .NotIn
theorem cmpOf_eq {op : CmpOp} {k : CK} (h : cCmp op = some k) : op = cmpOf k := by cases op <;> first | exact no_of h | (obtain rfl := Option.some.inj h; rfl)

section
variable {prog : Program} {w : World} {A : Around} {E : Value → Shared → Prop} {s : Shared}
theorem contains_bytes {b : Array UInt8} {t u : Tok} {c : Int} {Q : Bool → Shared → Prop} (h0 : 0 ≤ c) (h1 : c < 256) (h : Q (b.contains c.toNat.toUInt8) s) : wpAny (model prog w) A (contains (.bytes b t) (.int c u)) Q E s := by
  refine wpAny_contains_slot (typeIs_bytes s b t) FB.slot_bytes_contains (wpAny_call_entry FB.slot_bytes_contains (typeIs_bytes s b t) FB.entry_bytes_contains ?_ (FB.args_bytes_contains_2 _ _))
  show wpAny _ _ (Builtin.Bytes.containsIn "bytes.__contains__" (.bytes b t) (.int c u) >>= fun r => PySem.ret (Value.bool r)) _ _ s
  refine wpAny_bind ?_
  unfold Builtin.Bytes.containsIn
  refine wpAny_bind (wpAny_attempt ?_)
  show wpAny _ _ (pure c) _ _ s
  refine wpAny_pure (wpAny_bind (wpAny_of_eq KBy.buffer_eq ?_))
  dsimp only
  have hn : (decide (c < 0) || decide (c ≥ 256)) = false := by simp; omega
  simp only [hn]
  exact wpAny_pure (wpAny_pure ⟨_, rfl, wpAny_truthy_bool h⟩)
theorem cmp_in {u v : Value} {Q : Value → Shared → Prop} {b : Bool} (h : ∀ R : Bool → Shared → Prop, R b s → wpAny (model prog w) A (contains v u) R E s) (q : Q (.bool b) s) : wpAny (model prog w) A (compareOp .In u v) Q E s := by
  show wpAny _ _ (do return .bool (← contains v u)) Q E s
  exact wpAny_bind (h _ (wpAny_pure q))
theorem cmp_nin {u v : Value} {Q : Value → Shared → Prop} {b : Bool} (h : ∀ R : Bool → Shared → Prop, R b s → wpAny (model prog w) A (contains v u) R E s) (q : Q (.bool (!b)) s) : wpAny (model prog w) A (compareOp .NotIn u v) Q E s := by
  show wpAny _ _ (do return .bool (!(← contains v u))) Q E s
  exact wpAny_bind (h _ (wpAny_pure q))
end

section
variable {prog : Program} {w : World} {K : Frag} {g₀ : Heap} {g : Gh} {fr : List Fm} {σ : List TO} {A : Around} {E : Value → Shared → Prop} {s : Shared}

theorem str_beq (a b : List Nat) : ((⟨a.toArray⟩ : Str) == ⟨b.toArray⟩) = (a == b) := by
  by_cases h : a = b
  · subst h; simp
  · have : (⟨a.toArray⟩ : Str) ≠ ⟨b.toArray⟩ := fun q => h (by simpa using congrArg (fun x : Str => x.cps.toList) q)
    rw [beq_eq_false_iff_ne.mpr this, beq_eq_false_iff_ne.mpr h]
theorem any_strs (l : List (List Nat)) (k : List Nat) : ((l.map fun x => (⟨x.toArray⟩ : Str)).any fun y => y == ⟨k.toArray⟩) = l.any (· == k) := by
  rw [List.any_map]
  congr 1
  funext x
  exact str_beq x k

theorem in_ok {a b : AV} {r : Bool} {u v : Value} (X : K.In g₀) (I : Inv g₀ g fr σ s.heap) (ha : VR g a u) (hb : VR g b v) (h : inA K σ a b = some r) {Q : Value → Shared → Prop} :
    (Q (.bool r) s → wpAny (model prog w) A (compareOp .In u v) Q E s) ∧ (Q (.bool (!r)) s → wpAny (model prog w) A (compareOp .NotIn u v) Q E s) := by
  unfold inA at h
  split at h
  · rename_i c l
    obtain ⟨t, rfl⟩ := ha; obtain ⟨t', rfl⟩ := hb
    split at h
    · rename_i hc
      cases h
      have key : ∀ R : Bool → Shared → Prop, R (l.contains (UInt8.ofNat c.toNat)) s → wpAny (model prog w) A (contains (.bytes l.toArray t') (.int c t)) R E s := fun R q => contains_bytes hc.1 hc.2 (by simpa using q)
      exact ⟨fun q => cmp_in key q, fun q => cmp_nin key q⟩
    · cases h
  · rename_i c l
    obtain ⟨t, rfl⟩ := ha; obtain ⟨t', rfl⟩ := hb
    cases h
    have e : Txt.contains ⟨l.toArray⟩ ⟨[c].toArray⟩ = l.contains c := by
      show (!(Builtin.Str.occurrences _ _ 0 _ 1).isEmpty) = _
      rw [show (⟨[c].toArray⟩ : Str) = ⟨#[c]⟩ from rfl, StrLaws.found_one]
      simp [List.contains_eq_mem]
    exact ⟨fun q => SB.contains (by rw [e]; exact q), fun q => SB.notContains (by rw [e]; exact q)⟩
  · rename_i k i
    refine cont fun PP kq => ?_
    obtain ⟨t, rfl⟩ := ha; obtain ⟨x, rfl, l⟩ := hb
    refine kq ?_
    split at h
    · rename_i vs e
      simp only [Option.map_eq_some_iff] at h
      obtain ⟨ls, h1, rfl⟩ := h
      refine cont fun PP kq => ?_
      obtain ⟨x', l', items, n, hx, z⟩ := I.so i _ e
      rw [l] at l'; cases l'
      refine kq ?_
      have hs := strs_are h1 z
      rw [← any_strs]
      exact ⟨fun q => in_list_strs (isList_of (items := items.toList.toArray) hx) hs q, fun q => notin_list_strs (isList_of (items := items.toList.toArray) hx) hs q⟩
    · cases h
  · rename_i k _ _
    obtain ⟨t, rfl⟩ := ha
    simp only [Option.bind_eq_some_iff, Option.map_eq_some_iff] at h
    refine cont fun PP kq => ?_
    obtain ⟨vs, h1, ls, h2, rfl⟩ := h
    obtain ⟨x, items, n, rfl, f, z⟩ := tup_at X I hb h1
    refine kq ?_
    have hs := strs_are h2 z
    rw [← any_strs]
    exact ⟨fun q => in_tuple_strs (isTup_of (I.fz _ _ f)) hs q, fun q => notin_tuple_strs (isTup_of (I.fz _ _ f)) hs q⟩
  · rename_i k _
    obtain ⟨t, rfl⟩ := ha
    simp only [Option.bind_eq_some_iff, Option.map_eq_some_iff] at h
    refine cont fun PP kq => ?_
    obtain ⟨vs, h1, ls, h2, rfl⟩ := h
    obtain ⟨x, items, n, rfl, f, z⟩ := tup_at X I hb h1
    refine kq ?_
    have hs := ints_are h2 z
    exact ⟨fun q => in_tuple_ints (isTup_of (I.fz _ _ f)) hs q, fun q => notin_tuple_ints (isTup_of (I.fz _ _ f)) hs q⟩
  · cases h

theorem eqv_nil (ds : List PyData) : PyData.eqv (.list ds) (.list []) = ds.isEmpty := by
  cases ds <;> simp [PyData.eqv, PyData.eqvAll]
theorem eq_ok {a b : AV} {r : Bool} {u v : Value} (X : K.In g₀) (I : Inv g₀ g fr σ s.heap) (hu : A.units + 64 < cLine) (ha : VR g a u) (hb : VR g b v) (h : eqA K σ a b = some r) {Q : Value → Shared → Prop} :
    (Q (.bool r) s → wpAny (model prog w) A (compareOp .Eq u v) Q E s) ∧ (Q (.bool (!r)) s → wpAny (model prog w) A (compareOp .NotEq u v) Q E s) := by
  unfold eqA at h
  split at h
  · rename_i i j
    refine cont fun PP kq => ?_
    obtain ⟨x, rfl, l⟩ := ha; obtain ⟨y, rfl, l'⟩ := hb
    refine kq ?_
    split at h
    · rename_i vs e1 e2
      split at h
      · rename_i hp
        cases h
        refine cont fun PP kq => ?_
        obtain ⟨x', q, items, n, hx, z⟩ := I.so i _ e1
        rw [l] at q; cases q
        obtain ⟨y', q, items', n', hy, z'⟩ := I.so j _ e2
        rw [l'] at q; cases q
        obtain ⟨ds, as, h1, h2, h3, h4⟩ := reads_plain (h := s.heap) hp z
        refine kq ?_
        have hr1 : Reads s.heap (.ref x) (.list ds) (x :: as) := .list hx rfl rfl h1
        have hr2 : Reads s.heap (.ref y) (.list []) [y] := .list hy rfl rfl (by rw [show items'.toList = [] from z']; exact .nil)
        have s1 : SeqAt.shaped (.list ds) = true := by simp [SeqAt.shaped, PyData.canLay0, PyData.depth, h3, h4]
        have s2 : SeqAt.shaped (.list []) = true := by decide
        have e : PyData.eqv (.list ds) (.list []) = vs.isEmpty := by
          rw [eqv_nil]
          cases ds <;> cases vs <;> simp_all
        exact ⟨fun q => eq_dataH hr1 hr2 s1 s2 hu (by rw [e]; exact q), fun q => ne_dataH hr1 hr2 s1 s2 hu (by rw [e]; exact q)⟩
      · cases h
    · cases h
  · obtain ⟨t, rfl⟩ := ha; obtain ⟨t', rfl⟩ := hb
    cases h
    exact ⟨fun q => PyProof.Rows.eq_str (by rw [str_beq]; exact q), fun q => PyProof.Rows.ne_str (by rw [bne, str_beq]; exact q)⟩
  · obtain ⟨t, rfl⟩ := ha; obtain ⟨t', rfl⟩ := hb
    cases h
    exact ⟨fun q => eq_bytes (by simpa using q), fun q => ne_bytes (by simpa [bne] using q)⟩
  · split at h
    · rename_i da db e1 e2
      split at h
      · rename_i hs
        cases h
        rw [Bool.and_eq_true] at hs
        obtain ⟨_, r1⟩ := readsTop_of X I ha e1
        obtain ⟨_, r2⟩ := readsTop_of X I hb e2
        exact ⟨fun q => eq_dataH r1 r2 hs.1 hs.2 hu q, fun q => ne_dataH r1 r2 hs.1 hs.2 hu q⟩
      · cases h
    · cases h

theorem cmp_ok {op : CmpOp} {k : CK} {a b : AV} {r : Bool} {u v : Value} (X : K.In g₀) (I : Inv g₀ g fr σ s.heap) (hu : A.units + 64 < cLine) (ha : VR g a u) (hb : VR g b v) (hk : cCmp op = some k) (h : cmpA K σ k a b = some r) {Q : Value → Shared → Prop} (q : Q (.bool r) s) :
    wpAny (model prog w) A (compareOp op u v) Q E s := by
  obtain rfl := cmpOf_eq hk
  cases k
  case eq => exact (eq_ok X I hu ha hb h).1 q
  case ne =>
    obtain ⟨r', h', rfl⟩ := Option.map_eq_some_iff.mp h
    exact (eq_ok X I hu ha hb h').2 q
  case lt => obtain ⟨x, y, rfl, rfl, h'⟩ := ints2_of h; obtain ⟨t, rfl⟩ := ha; obtain ⟨t', rfl⟩ := hb; cases h'; exact P.lt_int q
  case gt => obtain ⟨x, y, rfl, rfl, h'⟩ := ints2_of h; obtain ⟨t, rfl⟩ := ha; obtain ⟨t', rfl⟩ := hb; cases h'; exact P.gt_int q
  case ge => obtain ⟨x, y, rfl, rfl, h'⟩ := ints2_of h; obtain ⟨t, rfl⟩ := ha; obtain ⟨t', rfl⟩ := hb; cases h'; exact P.ge_int q
  case le =>
    dsimp only [cmpA] at h
    split at h
    · obtain ⟨y, hb', h'⟩ := bind_of h
      obtain rfl := int_of hb'
      obtain ⟨t, rfl⟩ := ha; obtain ⟨t', rfl⟩ := hb; cases h'; exact P.le_int q
    · obtain ⟨y, hb', h1⟩ := bind_of h
      obtain rfl := str_of hb'
      obtain ⟨x, hx, h2⟩ := bind_of h1
      obtain rfl := one_of hx
      obtain ⟨y, hy, h3⟩ := bind_of h2
      obtain rfl := one_of hy
      obtain ⟨t, rfl⟩ := ha; obtain ⟨t', rfl⟩ := hb; cases h3
      refine P.le_str ?_
      have e : ([y] : List Nat) < [x] ↔ y < x := by rw [List.cons_lt_cons_iff]; simp
      have e2 : (!decide (([y] : List Nat) < [x])) = decide (x ≤ y) := by
        rw [decide_eq_decide.mpr e]
        by_cases hxy : x ≤ y
        · have : ¬ y < x := Nat.not_lt.mpr hxy
          rw [decide_eq_true hxy, decide_eq_false this]; rfl
        · have : y < x := Nat.lt_of_not_le hxy
          rw [decide_eq_false hxy, decide_eq_true this]; rfl
      show Q (.bool (!decide (([y] : List Nat) < [x]))) s
      rw [e2]; exact q
    · cases h
  case is =>
    dsimp only [cmpA] at h
    split at h
    · obtain rfl : v = .none := hb
      refine is_none_gen ?_
      split at h
      · cases h; rw [show u = .none from ha]; exact q
      · cases h; obtain ⟨x, _, _, rfl, _⟩ := ha; exact q
      · cases h; obtain ⟨t, rfl⟩ := ha; exact q
      · cases h
    · cases h
  case inn => exact (in_ok X I ha hb h).1 q
  case nin =>
    obtain ⟨r', h', rfl⟩ := Option.map_eq_some_iff.mp h
    exact (in_ok X I ha hb h').2 q
end
end Mine
end

section
open PySem PySem.W PyProof.Rows
set_option maxRecDepth 100000
namespace Mine

theorem letGo_ok (value : Expr) {o : Value} (h : ∀ a, o ≠ .ref a) (r : Value) : letTemporaryGo value o r = pure () := by
  cases value <;> cases o <;> first | rfl | exact absurd rfl (h _)
theorem subscripted_ok (slice : Expr) (o i : Value) : ∃ ops, subscripted slice false o i = operate ops (getItem o i) := by
  cases slice
  case Slice a b c p => cases c <;> exact ⟨_, rfl⟩
  all_goals exact ⟨_, rfl⟩

theorem cut_eq {α : Type} (l : List α) (a b : Nat) : (l.drop (min a l.length)).take (min b l.length - min a l.length) = (l.take b).drop a := by
  rw [List.drop_take]
  by_cases ha : a ≤ l.length
  · rw [Nat.min_eq_left ha]
    by_cases hb : b ≤ l.length
    · rw [Nat.min_eq_left hb]
    · rw [Nat.min_eq_right (Nat.le_of_not_le hb), List.take_of_length_le (by rw [List.length_drop]; first | exact Nat.le_refl _ | exact Nat.sub_le_sub_right (Nat.le_of_not_le hb) _), List.take_of_length_le (by rw [List.length_drop]; first | exact Nat.le_refl _ | exact Nat.sub_le_sub_right (Nat.le_of_not_le hb) _)]
  · rw [Nat.min_eq_right (Nat.le_of_not_le ha), List.drop_of_length_le (Nat.le_refl _), List.drop_of_length_le (Nat.le_of_not_le ha)]
    simp

theorem sliceL_eq {α : Type} {l r : List α} {lo hi : Option Int} (h : sliceL l lo hi = some r) : l.length ≤ 100000 ∧ hi.elim l.length (clipAt l.length) ≤ l.length ∧ (l.drop (lo.elim 0 (clipAt l.length))).take (hi.elim l.length (clipAt l.length) - lo.elim 0 (clipAt l.length)) = r := by
  unfold sliceL at h
  dsimp only at h
  split at h
  · rename_i hc
    cases h
    refine ⟨hc.2.2, ?_⟩
    have e1 : lo.elim 0 (clipAt l.length) = min (lo.getD 0).toNat l.length := by
      cases lo with
      | none => simp
      | some a =>
        have : 0 ≤ a := hc.1
        have z := clipAt_nat l.length a.toNat
        rw [Int.toNat_of_nonneg this] at z
        simpa using z
    have e2 : hi.elim l.length (clipAt l.length) = min (hi.getD l.length).toNat l.length := by
      cases hi with
      | none => simp
      | some a =>
        have : 0 ≤ a := hc.2.1
        have z := clipAt_nat l.length a.toNat
        rw [Int.toNat_of_nonneg this] at z
        simpa using z
    rw [e1, e2]
    exact ⟨Nat.min_le_right _ _, cut_eq l _ _⟩
  · cases h

theorem str_slice_eq {l r : List Nat} {lo hi : Option Int} (h : sliceL l lo hi = some r) : Txt.slice ⟨l.toArray⟩ lo hi = ⟨r.toArray⟩ := by
  obtain ⟨_, e0, e⟩ := sliceL_eq h
  have key : Builtin.Str.strSliceIndices lo hi 1 l.length = sliceRange (sliceBounds lo hi none l.length).1 (sliceBounds lo hi none l.length).2.1 (sliceBounds lo hi none l.length).2.2 := by
    cases lo <;> cases hi <;> rfl
  have hl : Str.length ⟨l.toArray⟩ = l.length := by simp [Str.length]
  unfold Txt.slice
  rw [hl, key, sliceBounds_plain]
  simp only [sliceRange_one, pick_run]
  split
  · rename_i hc
    simp only [List.length_map, List.length_range, beq_self_eq_true, Bool.true_and, beq_iff_eq] at hc
    rw [← e]
    generalize lo.elim 0 (clipAt l.length) = a at hc
    generalize hi.elim l.length (clipAt l.length) = b at hc e0
    rw [hc]
    by_cases h0 : l.length = 0
    · rw [List.eq_nil_of_length_eq_zero h0]; simp
    · have : a = 0 := by clear e key hl h; omega
      subst this
      simp
  · rw [← e]
theorem bytes_slice_eq {l r : List UInt8} {lo hi : Option Int} (h : sliceL l lo hi = some r) : KBy.picked l.toArray lo hi = r.toArray := by
  obtain ⟨_, _, e⟩ := sliceL_eq h
  rw [KBc.picked_eq]
  simp only [List.size_toArray]
  rw [← e]

section
variable {prog : Program} {w : World} {K : Frag} {g₀ : Heap} {c : Cx} {fr : List Fm} {d : Nat} {m : Lo} {σ : List TO} {g : Gh} {mm : Str → Option Value} {s : Shared} {Q : Value → Shared → Prop} {E : Value → Shared → Prop}

theorem sub_ok {a i r : AV} {u v : Value} {value slice : Expr} (X : K.In g₀) (h : subA K σ a i = some r) (ha : VR g a u) (hi : VR g i v) (st : St g₀ c fr d m σ g mm s.heap) (fin : Fin VR g₀ c fr mm (.ok r) σ g s Q E) :
    wpAny (model prog w) c.A (subscriptTail value slice u v) Q E s := by
  obtain ⟨ops, hs⟩ := subscripted_ok slice u v
  unfold subA at h
  split at h
  · rename_i b i
    obtain ⟨t, rfl⟩ := ha; obtain ⟨t', rfl⟩ := hi
    split at h
    · rename_i h0
      simp only [Option.map_eq_some_iff] at h
      obtain ⟨x, hx, rfl⟩ := h
      have hlt : i.toNat < b.length := (List.getElem?_eq_some_iff.mp hx).1
      refine tail_any (typeIs_bytes s _ t) FB.slot_bytes_getitem.lookup (getItem_bytes (Nat.le_trans h0.2 (by decide)) h0.1 ((Int.toNat_lt h0.1).mp hlt) (fin.pure st ?_)) hs
      rw [List.getD_eq_getElem?_getD, hx]
      exact ⟨_, rfl⟩
    · cases h
  · rename_i k i
    obtain ⟨x, rfl, l⟩ := ha; obtain ⟨t', rfl⟩ := hi
    split at h
    · rename_i vs e
      split at h
      · rename_i h0
        obtain ⟨x', l', items, n, hx, z⟩ := st.I.so k _ e
        rw [l] at l'; cases l'
        obtain ⟨u, hu, hr⟩ := z.get h
        have hL := isList_of hx
        have hlt : i.toNat < vs.length := (List.getElem?_eq_some_iff.mp h).1
        exact tail_any hL.typeIs slot_list_getitem.lookup (wpAny_getItem_list hL h0.1 (Int.lt_trans h0.2 (by decide)) (by rw [← Array.getElem?_toList]; exact hu) (fin.pure (tk := s.toks) st (hr.mono g.bare_le))) hs
      · cases h
    · cases h
  · rename_i a i _ _
    obtain ⟨t', rfl⟩ := hi
    simp only [Option.bind_eq_some_iff] at h
    obtain ⟨vs, h1, h⟩ := h
    split at h
    · rename_i h0
      obtain ⟨x, items, n, rfl, f, z⟩ := tup_at X st.I ha h1
      obtain ⟨u, hu, hr⟩ := z.get h
      have hT := isTup_of (st.I.fz _ _ f)
      have hlt : i.toNat < vs.length := (List.getElem?_eq_some_iff.mp h).1
      have hl := z.length
      have e : seqIndex? i items.size = some i.toNat := by
        have h2 : ¬ i < 0 := Int.not_lt.mpr h0.1
        have h3 : i < items.size := by rw [← Array.length_toList, hl]; exact (Int.toNat_lt h0.1).mp hlt
        simp [seqIndex?, h2, h0.1, h3]
      exact tail_any hT.typeIs slot_tuple_getitem.lookup (getItem_tuple hT (Int.le_trans (by decide) h0.1) (Int.lt_trans h0.2 (by decide)) e (by rw [← Array.getElem?_toList]; exact hu) (fin.pure (tk := s.toks) st hr)) hs
    · cases h
  · cases h

theorem optI_part {g : Gh} {a : Option AV} {i : Option Int} {v : Value} (h : optI a = some i) (hv : OptR g a v) : IsPart v i := by
  unfold optI at h
  split at h
  · cases h; rw [show v = .none from hv]; exact .none
  · cases h; obtain ⟨t, rfl⟩ := hv; exact .int _ t
  · cases h

theorem slice_ok {o : AV} {lo hi : Option AV} {u l h : Value} {r : Ex AV} {σ' : List TO} {value : Expr} {el eh : Option Expr} {pos : Pos} (hx : sliceA σ o lo hi = some (r, σ')) (ho : VR g o u) (hl : OptR g lo l) (hh : OptR g hi h)
    (st : St g₀ c fr d m σ g mm s.heap) (fin : Fin VR g₀ c fr mm r σ' g s Q E) :
    wpAny (model prog w) c.A (subscriptTail value (.Slice el eh none pos) u (.ref s.heap.objs.size)) Q E { s with heap := s.heap.push { cls := .type "slice", data := .fields #[l, h, .none] } } := by
  have kp : ∀ b o', s.heap.get? b = some o' → (s.heap.push { cls := .type "slice", data := .fields #[l, h, .none] }).get? b = some o' := fun b o' e => Heap.get?_push_of_some _ e
  have hkeep : KeptH fun h' => ∀ b o', s.heap.get? b = some o' → h'.get? b = some o' := fun h' o' k b o'' e => Heap.get?_push_of_some _ (k b o'' e)
  unfold sliceA at hx
  split at hx
  · rename_i lo' hi' e1 e2
    have p1 := optI_part e1 hl
    have p2 := optI_part e2 hh
    split at hx
    · rename_i b
      simp only [opt, Option.map_eq_some_iff] at hx
      obtain ⟨v, ⟨r', hr, rfl⟩, q⟩ := hx
      cases q
      obtain ⟨t, rfl⟩ := ho
      refine tail_of_ItemOn ⟨"bytes", _, FB.slot_bytes_getitem.lookup, typeIs_bytes _ _ _, getItem_meets (typeIs_bytes _ _ _) (by decide) FB.slot_bytes_getitem FB.entry_bytes_getitem (FB.args_bytes_getitem_2 _ _) (KBc.meets_slice2 b.toArray t _ p1 p2)
        ⟨Heap.IsSliceOf.new _ _ _ _, ?_, fun t' k => ?_⟩⟩ rfl (fun r => letGo_ok value (by intro _ e; cases e) r)
      · refine Nat.le_trans (KBc.size_picked_le _ _ _) ?_
        rw [List.size_toArray, sizeLine_eq]; have := (sliceL_eq hr).1; omega
      · rw [bytes_slice_eq hr]
        exact fin.made st kp ⟨_, rfl⟩
    · rename_i b
      simp only [opt, Option.map_eq_some_iff] at hx
      obtain ⟨v, ⟨r', hr, rfl⟩, q⟩ := hx
      cases q
      obtain ⟨t, rfl⟩ := ho
      have hsz : Str.length ⟨b.toArray⟩ ≤ sizeLine := by
        rw [sizeLine_eq]; have := (sliceL_eq hr).1; simp [Str.length]; omega
      have fin' : ∀ h' t' k, (∀ b o', s.heap.get? b = some o' → h'.get? b = some o') → Q (.str (Txt.slice ⟨b.toArray⟩ lo' hi') t') { s with heap := h', toks := k } := fun h' t' k kk => by
        rw [str_slice_eq hr]
        exact fin.made st kk ⟨_, rfl⟩
      refine tail_of_ItemOn ?_ rfl (fun r => letGo_ok value (by intro _ e; cases e) r)
      cases p1 <;> cases p2
      · exact SBH.sliceItem_nn hkeep (fun _ _ e => e) fin' hsz
      · exact SBH.sliceItem_ns hkeep (fun _ _ e => e) fin' hsz
      · exact SBH.sliceItem_sn hkeep (fun _ _ e => e) fin' hsz
      · exact SBH.sliceItem_ss hkeep (fun _ _ e => e) fin' hsz
    · rename_i b
      simp only [opt, Option.map_eq_some_iff] at hx
      obtain ⟨v, ⟨r', hr, rfl⟩, q⟩ := hx
      cases q
      refine cont fun PP kq => ?_
      obtain ⟨a, o, items, n, rfl, f, hcls, hdata, z⟩ := ho
      refine kq ?_
      have hz := z.length
      rw [Array.length_toList] at hz
      obtain ⟨hlen, _, hcut⟩ := sliceL_eq hr
      have hL : (s.heap.push { cls := .type "slice", data := .fields #[l, h, .none] }).IsList a items := ⟨o, kp _ _ (st.I.fz _ _ f), hcls, n, hdata⟩
      refine tail_any (s := { s with heap := s.heap.push { cls := .type "slice", data := .fields #[l, h, .none] } }) hL.typeIs slot_list_getitem.lookup (wpAny_getItem_list_slice hL (Heap.IsSliceOf.new _ _ _ _) p1 p2 .none (by decide) ?_ (by rw [sizeLine_eq]; omega)) rfl
      have kp2 : ∀ b o', s.heap.get? b = some o' → ((s.heap.push { cls := .type "slice", data := .fields #[l, h, .none] }).push { cls := .type "list", data := .seq (slicePick items lo' hi' none) }).get? b = some o' := fun b o' e => Heap.get?_push_of_some _ (kp _ _ e)
      have key : ∀ g', VRs g' b items.toList → VRs g' r' (slicePick items lo' hi' none).toList := fun g' z => by
        rw [slicePick_plain]
        simp only [hz]
        rw [← hcut]
        exact (z.drop _).take _
      refine fin.made (tk := s.toks) st kp2 ⟨_, _, _, 0, rfl, st.I.grown_new (Heap.get?_push_size _ rfl) ?_, rfl, rfl, key _ (z.mono (st.I.grown_le kp2))⟩
      cases e : s.heap.get? (s.heap.push { cls := .type "slice", data := .fields #[l, h, .none] }).objs.size with
      | none => rfl
      | some o' => exact absurd (Heap.lt_size (kp _ _ e)) (Nat.lt_irrefl _)
    · cases hx
  · cases hx
end
end Mine
end

section
open PySem PySem.W PyProof.Rows
set_option maxRecDepth 100000
namespace Mine

theorem opt_some {α : Type} {x : Option α} {σ σ' : List TO} {r : Ex α} (h : opt x σ = some (r, σ')) : ∃ a, x = some a ∧ r = .ok a ∧ σ' = σ := by
  simp only [opt, Option.map_eq_some_iff, Prod.mk.injEq] at h
  refine cont fun PP kq => ?_
  obtain ⟨a, e, rfl, rfl⟩ := h
  refine kq ?_
  exact ⟨a, e, rfl, rfl⟩
theorem ret_some {α : Type} {a : α} {σ σ' : List TO} {r : Ex α} (h : ret a σ = some (r, σ')) : r = .ok a ∧ σ' = σ := by
  simp only [ret, Option.some.injEq, Prod.mk.injEq] at h
  exact ⟨h.1.symm, h.2.symm⟩

noncomputable abbrev BR (_ : Gh) (b : Bool) (v : Bool) : Prop := v = b

section
variable {prog : Program} {w : World} {K : Frag} {p : Program} {loose : List Str} {mean : ExcName → Option Value} {mg mb : Str → Option Value} {g₀ : Heap} {c : Cx} {fr : List Fm} {d : Nat} {m : Lo}

theorem wpS_release {A : Around} {vs keep : List Value} {Q : Unit → Shared → Prop} {E : Value → Shared → Prop} {s : Shared} (h : Q () s) : wpS (model prog w) A (release vs keep) Q E s := fun Γ p _ _ => by
  rw [Sem.wp_release]; exact h

theorem sub_const {v : AV} {k : Const} (h : cConst k = some v) (e₁ : Nat) (pos : Pos) : Sub prog w VR g₀ c fr d m (eval (.Constant k e₁ pos) c.env) (fun σ => ret v σ) := by
  intro σ r σ' g mm s Q E hx st fin
  obtain ⟨rfl, rfl⟩ := ret_some hx
  cases k
  case none => obtain rfl := Option.some.inj h; exact wpS.of (wpAny_Constant_none (fin.pure (tk := s.toks) st rfl))
  case bool => obtain rfl := Option.some.inj h; exact wpS.of (wpAny_Constant_bool (fin.pure (tk := s.toks) st rfl))
  case int => obtain rfl := Option.some.inj h; exact wpS.of (wpAny_Constant_int (fin.pure st ⟨_, rfl⟩))
  case str => obtain rfl := Option.some.inj h; exact wpS.of (wpAny_Constant_str (fin.pure st ⟨s.toks, rfl⟩))
  case bytes => obtain rfl := Option.some.inj h; exact wpS.of (Constant_bytes (fin.pure st ⟨_, rfl⟩))
  all_goals exact no_of h

theorem sub_var {x : Str} {k : Nat} {pos : Pos} (C : CxOk c) (hx : c.sc.names.lookup x = some .local) (hd : x ≠ Str.ofString "__debug__") (hk : c.locs.findIdx? (· == x) = some k) :
    Sub prog w VR g₀ c fr d m (eval (.Name x pos) c.env) (fun σ => match m[k]? with | some (some v) => ret v σ | _ => none) := by
  intro σ r σ' g mm s Q E h st fin
  have hl : c.locs[k]? = some x := by
    obtain ⟨h1, h2, _⟩ := List.findIdx?_eq_some_iff_getElem.mp hk
    rw [List.getElem?_eq_getElem h1, eq_of_beq h2]
  dsimp only at h
  split at h
  · rename_i v hv
    obtain ⟨rfl, rfl⟩ := ret_some h
    obtain ⟨u, hu, q⟩ := st.M k x v hl hv
    exact wpS.of (name_local C st hx hd hu (fin.pure (tk := s.toks) st q))
  · cases h
theorem sub_glob {x : Str} {v : Value} {pos : Pos} (O : TopOk K p loose mean mg mb g₀) (C : CxOk c) (hx : c.sc.names.lookup x = some .globalImplicit) (hd : x ≠ Str.ofString "__debug__") (hv : globV K x = some v) :
    Sub prog w VR g₀ c fr d m (eval (.Name x pos) c.env) (fun σ => ret (toAV v) σ) := by
  intro σ r σ' g mm s Q E h st fin
  obtain ⟨rfl, rfl⟩ := ret_some h
  exact wpS.of (name_global O C st hx hd hv (fin.pure (tk := s.toks) st (VR.toAV v)))

theorem sub_bin {l r : Expr} {op : Operator} {k : BK} {pos : Pos} {xa xb : List TO → R AV} (ha : Sub prog w VR g₀ c fr d m (eval l c.env) xa) (hb : Sub prog w VR g₀ c fr d m (eval r c.env) xb) (hk : cBin op = some k) :
    Sub prog w VR g₀ c fr d m (eval (.BinOp l op r pos) c.env) (fun σ => bnd (xa σ) fun a σ => bnd (xb σ) fun b σ => opt (binA k a b) σ) := by
  intro σ r σ' g mm s Q E hx st fin
  rw [arm_eval_BinOp]
  refine wpS_bind (ha.then hx st fin fun a u σ₁ g₁ h₁ tk hx k1 st₁ ra fin₁ => ?_)
  refine wpS_bind (wpS_holding (hb.then hx st₁ fin₁ fun b v σ₂ g₂ h₂ tk₂ hx k2 st₂ rb fin₂ => ?_))
  refine cont fun PP kq => ?_
  obtain ⟨a', h', rfl, rfl⟩ := opt_some hx
  refine kq ?_
  exact wpS_stand (wpS_operate (wpS.of (bin_ok hk h' (ra.mono k2) rb st₂ fin₂)))

theorem sub_neg {i : Int} {e₁ : Nat} {pos pos' : Pos} : Sub prog w VR g₀ c fr d m (eval (.UnaryOp .USub (.Constant (.int i) e₁ pos) pos') c.env) (fun σ => ret (.int (-i)) σ) := by
  intro σ r σ' g mm s Q E h st fin
  obtain ⟨rfl, rfl⟩ := ret_some h
  refine wpS.of (wpAny_UnaryOp (wpAny_Constant_int ?_))
  exact neg_int (fin.pure st ⟨_, rfl⟩)

theorem hu_of {σ : List TO} {g : Gh} {mm : Str → Option Value} {h : Heap} (st : St g₀ c fr d m σ g mm h) : c.A.units + 64 < cLine := by
  exact room_d st.R.2

theorem sub_cmp {l r : Expr} {op : CmpOp} {k : CK} {pos : Pos} {xa xb : List TO → R AV} (X : K.In g₀) (ha : Sub prog w VR g₀ c fr d m (eval l c.env) xa) (hb : Sub prog w VR g₀ c fr d m (eval r c.env) xb) (hk : cCmp op = some k) (hm : behindInMarks op r = false) :
    Sub prog w VR g₀ c fr d m (eval (.Compare l [op] [r] pos) c.env) (fun σ => bnd (xa σ) fun a σ => bnd (xb σ) fun b σ => opt ((cmpA K σ k a b).map .bool) σ) := by
  intro σ r' σ' g mm s Q E hx st fin
  rw [arm_eval_Compare]
  refine wpS_bind (ha.then hx st fin fun a u σ₁ g₁ h₁ tk hx k1 st₁ ra fin₁ => ?_)
  show wpS _ _ (do let rv ← holding [u] (markedBehindIn op r (eval r c.env)); standAt pos; operate [u, rv] (compareOp op u rv)) _ _ _
  rw [markedBehindIn_of_false hm]
  refine wpS_bind (wpS_holding (hb.then hx st₁ fin₁ fun b v σ₂ g₂ h₂ tk₂ hx k2 st₂ rb fin₂ => ?_))
  refine cont fun PP kq => ?_
  obtain ⟨a', h', rfl, rfl⟩ := opt_some hx
  refine kq ?_
  simp only [Option.map_eq_some_iff] at h'
  obtain ⟨b', h', rfl⟩ := h'
  exact wpS_stand (wpS_operate (wpS.of (cmp_ok X st₂.I (hu_of st₂) (ra.mono k2) rb hk h' (fin₂.pure (tk := tk₂) st₂ rfl))))
theorem test_cmp {l r : Expr} {op : CmpOp} {k : CK} {pos : Pos} {whole : Sem Value} {xa xb : List TO → R AV} (X : K.In g₀) (ha : Sub prog w VR g₀ c fr d m (eval l c.env) xa) (hb : Sub prog w VR g₀ c fr d m (eval r c.env) xb) (hk : cCmp op = some k) (hm : behindInMarks op r = false) :
    Sub prog w BR g₀ c fr d m (isTrue (.Compare l [op] [r] pos) c.env whole) (fun σ => bnd (xa σ) fun a σ => bnd (xb σ) fun b σ => opt (cmpA K σ k a b) σ) := by
  intro σ r' σ' g mm s Q E hx st fin
  rw [arm_isTrue_Compare]
  refine wpS_bind (ha.then hx st fin fun a u σ₁ g₁ h₁ tk hx k1 st₁ ra fin₁ => ?_)
  show wpS _ _ (do let rv ← holding [u] (markedBehindIn op r (eval r c.env)); standAt pos; let c ← operate [u, rv] (compareOp op u rv); holding [c] (truthy c)) _ _ _
  rw [markedBehindIn_of_false hm]
  refine wpS_bind (wpS_holding (hb.then hx st₁ fin₁ fun b v σ₂ g₂ h₂ tk₂ hx k2 st₂ rb fin₂ => ?_))
  refine cont fun PP kq => ?_
  obtain ⟨a', h', rfl, rfl⟩ := opt_some hx
  refine kq ?_
  exact wpS_stand (wpS_bind (wpS_operate (wpS.of (cmp_ok X st₂.I (hu_of st₂) (ra.mono k2) rb hk h' (wpS_holding (wpS.of (wpAny_truthy_bool (fin₂.pure (tk := tk₂) st₂ rfl))))))))

theorem sub_cmp2 {l r r' : Expr} {op op' : CmpOp} {k k' : CK} {pos : Pos} {xa xb xc : List TO → R AV} (X : K.In g₀) (ha : Sub prog w VR g₀ c fr d m (eval l c.env) xa) (hb : Sub prog w VR g₀ c fr d m (eval r c.env) xb) (hc : Sub prog w VR g₀ c fr d m (eval r' c.env) xc)
    (hk : cCmp op = some k) (hk' : cCmp op' = some k') (hm : behindInMarks op' r' = false) :
    Sub prog w VR g₀ c fr d m (eval (.Compare l [op, op'] [r, r'] pos) c.env) (fun σ => bnd (xa σ) fun a σ => bnd (xb σ) fun b σ => match cmpA K σ k a b with
      | some true => bnd (xc σ) fun c σ => opt ((cmpA K σ k' b c).map .bool) σ
      | some false => ret (.bool false) σ
      | none => none) := by
  intro σ q σ' g mm s Q E hx st fin
  rw [arm_eval_Compare]
  refine wpS_bind (ha.then hx st fin fun a u σ₁ g₁ h₁ tk hx k1 st₁ ra fin₁ => ?_)
  show wpS _ _ (do
    let rv ← holding [u] (eval r c.env)
    standAt pos
    let c' ← holding [u, rv] (compareOp op u rv)
    release [u, rv] [c']
    if ← holding [c', rv] (truthy c') then (do
      let rv' ← holding [rv] (markedBehindIn op' r' (eval r' c.env))
      standAt pos
      operate [rv, rv'] (compareOp op' rv rv')) else pure c') _ _ _
  rw [markedBehindIn_of_false hm]
  refine wpS_bind (wpS_holding (hb.then hx st₁ fin₁ fun b v σ₂ g₂ h₂ tk₂ hx k2 st₂ rb fin₂ => ?_))
  refine wpS_stand ?_
  split at hx
  · rename_i e
    refine wpS_bind (wpS_holding (wpS.of (cmp_ok X st₂.I (hu_of st₂) (ra.mono k2) rb hk e ?_)))
    refine wpS_bind (wpS_release (wpS_bind (wpS_holding (wpS.of (wpAny_truthy_bool ?_)))))
    simp only [if_true]
    refine wpS_bind (wpS_holding (hc.then hx st₂ fin₂ fun b' v' σ₃ g₃ h₃ tk₃ hx k3 st₃ rc fin₃ => ?_))
    refine cont fun PP kq => ?_
    obtain ⟨a', h', rfl, rfl⟩ := opt_some hx
    refine kq ?_
    simp only [Option.map_eq_some_iff] at h'
    obtain ⟨b', h', rfl⟩ := h'
    exact wpS_stand (wpS_operate (wpS.of (cmp_ok X st₃.I (hu_of st₃) (rb.mono k3) rc hk' h' (fin₃.pure (tk := tk₃) st₃ rfl))))
  · rename_i e
    obtain ⟨rfl, rfl⟩ := ret_some hx
    refine wpS_bind (wpS_holding (wpS.of (cmp_ok X st₂.I (hu_of st₂) (ra.mono k2) rb hk e ?_)))
    refine wpS_bind (wpS_release (wpS_bind (wpS_holding (wpS.of (wpAny_truthy_bool ?_)))))
    simp only [Bool.false_eq_true, if_false]
    exact wpS_pure (fin₂.pure (tk := tk₂) st₂ rfl)
  · cases hx
theorem test_cmp2 {l r r' : Expr} {op op' : CmpOp} {k k' : CK} {pos : Pos} {whole : Sem Value} {xa xb xc : List TO → R AV} (X : K.In g₀) (ha : Sub prog w VR g₀ c fr d m (eval l c.env) xa) (hb : Sub prog w VR g₀ c fr d m (eval r c.env) xb) (hc : Sub prog w VR g₀ c fr d m (eval r' c.env) xc)
    (hk : cCmp op = some k) (hk' : cCmp op' = some k') (hm : behindInMarks op' r' = false) :
    Sub prog w BR g₀ c fr d m (isTrue (.Compare l [op, op'] [r, r'] pos) c.env whole) (fun σ => bnd (xa σ) fun a σ => bnd (xb σ) fun b σ => match cmpA K σ k a b with
      | some true => bnd (xc σ) fun c σ => opt (cmpA K σ k' b c) σ
      | some false => ret false σ
      | none => none) := by
  intro σ q σ' g mm s Q E hx st fin
  rw [arm_isTrue_Compare]
  refine wpS_bind (ha.then hx st fin fun a u σ₁ g₁ h₁ tk hx k1 st₁ ra fin₁ => ?_)
  show wpS _ _ (do
    let rv ← holding [u] (eval r c.env)
    standAt pos
    let c' ← holding [u, rv] (compareOp op u rv)
    release [u, rv] [c']
    if ← holding [c', rv] (truthy c') then (do
      let rv' ← holding [rv] (markedBehindIn op' r' (eval r' c.env))
      standAt pos
      let c ← operate [rv, rv'] (compareOp op' rv rv')
      holding [c] (truthy c)) else pure false) _ _ _
  rw [markedBehindIn_of_false hm]
  refine wpS_bind (wpS_holding (hb.then hx st₁ fin₁ fun b v σ₂ g₂ h₂ tk₂ hx k2 st₂ rb fin₂ => ?_))
  refine wpS_stand ?_
  split at hx
  · rename_i e
    refine wpS_bind (wpS_holding (wpS.of (cmp_ok X st₂.I (hu_of st₂) (ra.mono k2) rb hk e ?_)))
    refine wpS_bind (wpS_release (wpS_bind (wpS_holding (wpS.of (wpAny_truthy_bool ?_)))))
    simp only [if_true]
    refine wpS_bind (wpS_holding (hc.then hx st₂ fin₂ fun b' v' σ₃ g₃ h₃ tk₃ hx k3 st₃ rc fin₃ => ?_))
    refine cont fun PP kq => ?_
    obtain ⟨a', h', rfl, rfl⟩ := opt_some hx
    refine kq ?_
    exact wpS_stand (wpS_bind (wpS_operate (wpS.of (cmp_ok X st₃.I (hu_of st₃) (rb.mono k3) rc hk' h' (wpS_holding (wpS.of (wpAny_truthy_bool (fin₃.pure (tk := tk₃) st₃ rfl))))))))
  · rename_i e
    obtain ⟨rfl, rfl⟩ := ret_some hx
    refine wpS_bind (wpS_holding (wpS.of (cmp_ok X st₂.I (hu_of st₂) (ra.mono k2) rb hk e ?_)))
    refine wpS_bind (wpS_release (wpS_bind (wpS_holding (wpS.of (wpAny_truthy_bool ?_)))))
    simp only [Bool.false_eq_true, if_false]
    exact wpS_pure (fin₂.pure (tk := tk₂) st₂ rfl)
  · cases hx
end
end Mine
end

section
open PySem PySem.W PyProof.Rows
set_option maxRecDepth 100000
namespace Mine

noncomputable abbrev asB (v : AV) (σ : List TO) : R Bool := match v with
  | .bool b => ret b σ
  | _ => none
theorem asB_some {v : AV} {σ σ' : List TO} {r : Ex Bool} (h : asB v σ = some (r, σ')) : ∃ b, v = .bool b ∧ r = .ok b ∧ σ' = σ := by
  unfold asB at h
  split at h
  · obtain ⟨a, b⟩ := ret_some h
    exact ⟨_, rfl, a, b⟩
  · cases h

theorem get_size (h : Heap) : h.get? h.objs.size = none := by
  cases e : h.get? h.objs.size with
  | none => rfl
  | some o => exact absurd (Heap.lt_size e) (Nat.lt_irrefl _)
theorem Inv.size_le {g₀ : Heap} {g : Gh} {p : Fm} {fr : List Fm} {σ : List TO} {h : Heap} (I : Inv g₀ g (p :: fr) σ h) : g₀.objs.size ≤ h.objs.size := by
  have h1 := (I.fs _ (.head _)).2.2
  obtain ⟨o, ho, _⟩ := (I.fs _ (.head _)).1
  exact Nat.le_trans h1 (Nat.le_of_lt (Heap.lt_size ho))
theorem Inv.track_bare {g₀ : Heap} {g : Gh} {fr : List Fm} {σ : List TO} {h h' : Heap} {a : Addr} {n : Nat} (I : Inv g₀ g fr σ h) (k : ∀ b o, h.get? b = some o → h'.get? b = some o) (hn : h.get? a = none) :
    g.bare.le ((g.grown fr h').track n a).bare := by
  refine ⟨fun b o e => ?_, fun _ _ e => nomatch e⟩
  have hb : b ≠ a := fun q => by
    have z := I.fz b o e
    rw [q, hn] at z; cases z
  show (if b = a then none else (g.grown fr h').frz b) = some o
  rw [if_neg hb]
  exact (I.grown_le k).1 b o e

structure PlainE (e : Expr) : Prop where
  nst : (match e with | .Starred .. => true | _ => false) = false
  star : ∀ rest env, starEach (e :: rest) env = (false, eval e env) :: starEach rest env
  beh : ∀ op, behindInMarks op e = false
  fold : ∀ env v, foldedSetIterable e env v = pure v
  swa : ∀ o a q line env, swapsWith e (some (.Attribute o a q)) line env = pure false
  sw : isComp e = false → ∀ t line env, swapsWith e t line env = pure false
theorem cE_plain {K : Frag} {locs : List Str} {sc : Scope} {e : Expr} {ie : IE} (h : CE K locs sc e ie) : PlainE e := by
  cases h.out <;> first | exact ⟨rfl, fun _ _ => rfl, fun _ => rfl, fun _ _ => rfl, fun _ _ _ _ _ => rfl, fun _ _ _ _ => rfl⟩ | exact ⟨rfl, fun _ _ => rfl, fun _ => rfl, fun _ _ => rfl, fun _ _ _ _ _ => rfl, fun h => nomatch h⟩

section
variable {prog : Program} {w : World} {K : Frag} {p : Program} {loose : List Str} {mean : ExcName → Option Value} {mg mb : Str → Option Value} {g₀ : Heap} {c : Cx} {fr : List Fm} {d : Nat} {m : Lo}

theorem sub_items_nil {pos : Pos} : Sub prog w VRs g₀ c fr d m (spliced (backTo pos (starEach [] c.env))) (fun σ => ret [] σ) := by
  intro σ r σ' g mm s Q E hx st fin
  obtain ⟨rfl, rfl⟩ := ret_some hx
  exact wpS_pure (fin.pure (tk := s.toks) st VRs.nil)
theorem sub_items_cons {pos : Pos} {e : Expr} {rest : List Expr} {xa : List TO → R AV} {xr : List TO → R (List AV)} (he : ∀ rest env, starEach (e :: rest) env = (false, eval e env) :: starEach rest env)
    (ha : Sub prog w VR g₀ c fr d m (eval e c.env) xa) (hr : Sub prog w VRs g₀ c fr d m (spliced (backTo pos (starEach rest c.env))) xr) :
    Sub prog w VRs g₀ c fr d m (spliced (backTo pos (starEach (e :: rest) c.env))) (fun σ => bnd (xa σ) fun v σ => bnd (xr σ) fun vs σ => ret (v :: vs) σ) := by
  intro σ r σ' g mm s Q E hx st fin
  rw [he]
  show wpS _ _ (do
    let v ← eval e c.env
    let here ← (pure [v] : Sem (List Value))
    return here ++ (← holding here (spliced (backTo pos (starEach rest c.env))))) _ _ _
  refine wpS_bind (ha.then hx st fin fun a u σ₁ g₁ h₁ tk hx k1 st₁ ra fin₁ => ?_)
  refine wpS_bind (wpS_pure (wpS_bind (wpS_holding (hr.then hx st₁ fin₁ fun b v σ₂ g₂ h₂ tk₂ hx k2 st₂ rb fin₂ => ?_))))
  obtain ⟨rfl, rfl⟩ := ret_some hx
  exact wpS_pure (fin₂.pure (tk := tk₂) st₂ (VRs.cons (ra.mono k2) rb))

theorem sub_tup {pos : Pos} {k : Nat} {es : List Expr} {xr : List TO → R (List AV)} (hr : Sub prog w VRs g₀ c fr d m (spliced (backTo pos (starEach es c.env))) xr) :
    Sub prog w VR g₀ c fr d m (eval (.Tuple es k pos) c.env) (fun σ => bnd (xr σ) fun vs σ => if vs.length ≤ 100 then ret (.tup vs) σ else none) := by
  intro σ r σ' g mm s Q E hx st fin
  rw [arm_eval_Tuple]
  refine wpS_stand (wpS_bind (hr.then hx st fin fun vs us σ₁ g₁ h₁ tk hx k1 st₁ ra fin₁ => ?_))
  split at hx
  · rename_i hl
    obtain ⟨rfl, rfl⟩ := ret_some hx
    refine wpS.of (wpAny_newTuple (fin₁.made (tk := tk) st₁ (fun b o e => Heap.get?_push_of_some _ e) ?_) ?_)
    · exact ⟨_, us.toArray, 0, rfl, st₁.I.grown_new (Heap.get?_push_size _ rfl) (get_size _), by simpa using ra.mono (st₁.I.grown_le fun b o e => Heap.get?_push_of_some _ e)⟩
    · rw [sizeLine_eq, ra.length]; omega
  · cases hx

theorem sub_list {pos : Pos} {es : List Expr} {xr : List TO → R (List AV)} (hr : Sub prog w VRs g₀ c fr d m (spliced (backTo pos (starEach es c.env))) xr) :
    Sub prog w VR g₀ c fr d m (eval (.List es pos) c.env) (fun σ => bnd (xr σ) fun vs σ => if AV.frees vs && vs.length ≤ 100 then mk (.list vs) σ else none) := by
  intro σ r σ' g mm s Q E hx st fin
  rw [arm_eval_List]
  refine wpS_stand (wpS_bind (hr.then hx st fin fun vs us σ₁ g₁ h₁ tk hx k1 st₁ ra fin₁ => ?_))
  split at hx
  · rename_i hl
    simp only [Bool.and_eq_true, decide_eq_true_eq] at hl
    simp only [mk, Option.some.injEq, Prod.mk.injEq] at hx
    obtain ⟨rfl, rfl⟩ := hx
    have kp : ∀ b o', h₁.get? b = some o' → (h₁.push (lstObj us.toArray 0)).get? b = some o' := fun b o e => Heap.get?_push_of_some _ e
    have hT := st₁.I.track (t := .list vs) kp (get_size _) st₁.I.size_le ⟨us.toArray, 0, Heap.get?_push_size _ rfl, by
      simpa using VRs.mono (st₁.I.track_bare kp (get_size _)) (VRs.bare hl.1 ra)⟩
    refine wpS.of (wpAny_newList (fin₁.ok _ rfl _ _ _ tk hT.1 hT.2 ⟨_, rfl, by simp [Gh.track]⟩) ?_)
    rw [sizeLine_eq, ra.length]; omega
  · cases hx

theorem sub_none : Sub prog w OptR g₀ c fr d m (valueOrNone (evalOpt none c.env)) (fun σ => ret none σ) := by
  intro σ r σ' g mm s Q E hx st fin
  obtain ⟨rfl, rfl⟩ := ret_some hx
  exact wpS_pure (fin.pure (tk := s.toks) st rfl)
theorem sub_some {e : Expr} {xa : List TO → R AV} (ha : Sub prog w VR g₀ c fr d m (eval e c.env) xa) : Sub prog w OptR g₀ c fr d m (valueOrNone (evalOpt (some e) c.env)) (fun σ => bnd (xa σ) fun v σ => ret (some v) σ) := by
  intro σ r σ' g mm s Q E hx st fin
  show wpS _ _ (eval e c.env) _ _ _
  refine ha.then hx st fin fun a u σ₁ g₁ h₁ tk hx k1 st₁ ra fin₁ => ?_
  obtain ⟨rfl, rfl⟩ := ret_some hx
  exact fin₁.pure (tk := tk) st₁ ra

theorem sub_not {x : Expr} {pos : Pos} {xa : List TO → R AV} (ha : Sub prog w VR g₀ c fr d m (eval x c.env) xa) : Sub prog w VR g₀ c fr d m (eval (.UnaryOp .Not x pos) c.env) (fun σ => bnd (bnd (xa σ) asB) fun b σ => ret (.bool (!b)) σ) := by
  intro σ r σ' g mm s Q E hx st fin
  rw [arm_eval_UnaryOp]
  rcases bnd_split hx with ⟨b, σ₁, h1, h2⟩ | ⟨i, h1, rfl⟩
  · obtain ⟨rfl, rfl⟩ := ret_some h2
    rcases bnd_split h1 with ⟨v, σ₂, h3, h4⟩ | ⟨i, h3, q⟩
    · obtain ⟨b', rfl, q, rfl⟩ := asB_some h4
      cases q
      refine wpS_bind (ha h3 st ⟨fun a e v g' h' tk l I q => ?_, fun _ e => nomatch e⟩)
      cases e
      rw [show v = .bool b from q]
      exact wpS_stand (wpS_holding (wpS.of (not_value (wpAny_truthy_bool (fin.ok _ rfl _ g' h' tk l I rfl)))))
    · cases q
  · rcases bnd_split h1 with ⟨v, σ₂, h3, h4⟩ | ⟨j, h3, q⟩
    · obtain ⟨b', rfl, q, rfl⟩ := asB_some h4
      cases q
    · cases q
      exact wpS_bind (ha h3 st ⟨fun a e => (nomatch e), fun j e => fin.ex j (by cases e; rfl)⟩)

theorem sub_ite {t a b : Expr} {pos : Pos} {xt : List TO → R Bool} {xa xb : List TO → R AV} (ht : Sub prog w BR g₀ c fr d m (isTrue t c.env (eval t c.env)) xt) (ha : Sub prog w VR g₀ c fr d m (eval a c.env) xa) (hb : Sub prog w VR g₀ c fr d m (eval b c.env) xb) :
    Sub prog w VR g₀ c fr d m (eval (.IfExp t a b pos) c.env) (fun σ => bnd (xt σ) fun t σ => if t then xa σ else xb σ) := by
  intro σ r σ' g mm s Q E hx st fin
  rw [arm_eval_IfExp]
  refine wpS_bind (ht.then hx st fin fun b u σ₁ g₁ h₁ tk hx k1 st₁ ra fin₁ => ?_)
  cases ra
  cases b
  · exact hb hx st₁ fin₁
  · exact ha hx st₁ fin₁
theorem test_ite {t a b : Expr} {pos : Pos} {whole : Sem Value} {xt xa xb : List TO → R Bool} (ht : Sub prog w BR g₀ c fr d m (isTrue t c.env (eval t c.env)) xt) (ha : Sub prog w BR g₀ c fr d m (isTrue a c.env (eval a c.env)) xa) (hb : Sub prog w BR g₀ c fr d m (isTrue b c.env (eval b c.env)) xb) :
    Sub prog w BR g₀ c fr d m (isTrue (.IfExp t a b pos) c.env whole) (fun σ => bnd (xt σ) fun t σ => if t then xa σ else xb σ) := by
  intro σ r σ' g mm s Q E hx st fin
  rw [arm_isTrue_IfExp]
  refine wpS_bind (ht.then hx st fin fun b u σ₁ g₁ h₁ tk hx k1 st₁ ra fin₁ => ?_)
  cases ra
  cases b
  · exact hb hx st₁ fin₁
  · exact ha hx st₁ fin₁
theorem test_not {x : Expr} {pos : Pos} {whole : Sem Value} {xt : List TO → R Bool} (ht : Sub prog w BR g₀ c fr d m (isTrue x c.env (eval x c.env)) xt) :
    Sub prog w BR g₀ c fr d m (isTrue (.UnaryOp .Not x pos) c.env whole) (fun σ => bnd (xt σ) fun b σ => ret (!b) σ) := by
  intro σ r σ' g mm s Q E hx st fin
  rw [arm_isTrue_UnaryOp]
  refine wpS_bind (ht.then hx st fin fun b u σ₁ g₁ h₁ tk hx k1 st₁ ra fin₁ => ?_)
  cases ra
  obtain ⟨rfl, rfl⟩ := ret_some hx
  exact wpS_pure (fin₁.pure (tk := tk) st₁ rfl)
theorem test_value {e : Expr} {xa : List TO → R AV} (ha : Sub prog w VR g₀ c fr d m (eval e c.env) xa) (he : isTrue e c.env (eval e c.env) = (do let v ← eval e c.env; standAt e.pos; holding [v] (truthy v))) :
    Sub prog w BR g₀ c fr d m (isTrue e c.env (eval e c.env)) (fun σ => bnd (xa σ) asB) := by
  intro σ r σ' g mm s Q E hx st fin
  rw [he]
  refine wpS_bind (ha.then hx st fin fun b u σ₁ g₁ h₁ tk hx k1 st₁ ra fin₁ => ?_)
  obtain ⟨b', rfl, rfl, rfl⟩ := asB_some hx
  rw [show u = .bool b' from ra]
  exact wpS_stand (wpS_holding (wpS.of (wpAny_truthy_bool (fin₁.pure (tk := tk) st₁ rfl))))

theorem sub_allTrue_nil {op : BoolOp} : Sub prog w BR g₀ c fr d m (allTrue op [] c.env) (fun σ => ret (op == .And) σ) := by
  intro σ r σ' g mm s Q E hx st fin
  obtain ⟨rfl, rfl⟩ := ret_some hx
  exact wpS_pure (fin.pure (tk := s.toks) st rfl)
theorem sub_allTrue_cons {op : BoolOp} {x : Expr} {rest : List Expr} {xt xr : List TO → R Bool} (ht : Sub prog w BR g₀ c fr d m (isTrue x c.env (eval x c.env)) xt) (hr : Sub prog w BR g₀ c fr d m (allTrue op rest c.env) xr) :
    Sub prog w BR g₀ c fr d m (allTrue op (x :: rest) c.env) (fun σ => bnd (xt σ) fun b σ => if b = (op == .And) then xr σ else ret (!(op == .And)) σ) := by
  intro σ r σ' g mm s Q E hx st fin
  rw [arm_allTrue_cons]
  refine wpS_bind (ht.then hx st fin fun b u σ₁ g₁ h₁ tk hx k1 st₁ ra fin₁ => ?_)
  cases ra
  cases op <;> cases b
  · obtain ⟨rfl, rfl⟩ := ret_some (a := false) hx
    exact wpS_pure (fin₁.pure (tk := tk) st₁ rfl)
  · exact hr hx st₁ fin₁
  · exact hr hx st₁ fin₁
  · obtain ⟨rfl, rfl⟩ := ret_some (a := true) hx
    exact wpS_pure (fin₁.pure (tk := tk) st₁ rfl)
theorem test_bool {op : BoolOp} {es : List Expr} {pos : Pos} {whole : Sem Value} {x : List TO → R Bool} (h : Sub prog w BR g₀ c fr d m (allTrue op es c.env) x) : Sub prog w BR g₀ c fr d m (isTrue (.BoolOp op es pos) c.env whole) x := by
  intro σ r σ' g mm s Q E hx st fin
  rw [arm_isTrue_BoolOp]; exact h hx st fin

theorem sub_boolOp_one {op : BoolOp} {e : Expr} {pos : Pos} {xa : List TO → R AV} (ha : Sub prog w VR g₀ c fr d m (eval e c.env) xa) :
    Sub prog w VR g₀ c fr d m (boolOp pos op (evalEach [e] c.env)) (fun σ => bnd (bnd (bnd (xa σ) asB) fun b σ => if b = (op == .And) then ret (op == .And) σ else ret (!(op == .And)) σ) fun b σ => ret (.bool b) σ) := by
  intro σ r σ' g mm s Q E hx st fin
  dsimp only at hx
  show wpS _ _ (eval e c.env) _ _ _
  have key : bnd (xa σ) (fun v σ => bnd (asB v σ) fun b σ => ret (.bool b) σ) = some (r, σ') := by
    cases hxa : xa σ with
    | none => rw [hxa] at hx; cases hx
    | some q =>
      obtain ⟨q1, σ₁⟩ := q
      rw [hxa] at hx
      cases q1 with
      | exc i => exact hx
      | ok v =>
        simp only [bnd] at hx ⊢
        cases v with
        | bool b => cases op <;> cases b <;> exact hx
        | _ => cases hx
  refine ha.then key st fin fun b u σ₁ g₁ h₁ tk hx k1 st₁ ra fin₁ => ?_
  rcases bnd_split hx with ⟨b', σ₂, h1, h2⟩ | ⟨i, h1, rfl⟩
  · obtain ⟨b'', rfl, q, rfl⟩ := asB_some h1
    cases q
    obtain ⟨rfl, rfl⟩ := ret_some h2
    exact fin₁.pure (tk := tk) st₁ ra
  · obtain ⟨b'', rfl, q, rfl⟩ := asB_some h1
    cases q
theorem sub_boolOp_cons {op : BoolOp} {e e' : Expr} {rest : List Expr} {pos : Pos} {xa : List TO → R AV} {xr : List TO → R Bool} (ha : Sub prog w VR g₀ c fr d m (eval e c.env) xa)
    (hr : Sub prog w VR g₀ c fr d m (boolOp pos op (evalEach (e' :: rest) c.env)) (fun σ => bnd (xr σ) fun b σ => ret (.bool b) σ)) :
    Sub prog w VR g₀ c fr d m (boolOp pos op (evalEach (e :: e' :: rest) c.env)) (fun σ => bnd (bnd (bnd (xa σ) asB) fun b σ => if b = (op == .And) then xr σ else ret (!(op == .And)) σ) fun b σ => ret (.bool b) σ) := by
  intro σ r σ' g mm s Q E hx st fin
  dsimp only at hx
  show wpS _ _ (do
    let v ← eval e c.env
    standAt pos
    let t ← holding [v] (truthy v)
    match op, t with
    | .And, false | .Or, true => pure v
    | _, _ => boolOp pos op (evalEach (e' :: rest) c.env)) _ _ _
  have key : bnd (xa σ) (fun v σ => bnd (asB v σ) fun b σ => bnd (if b = (op == .And) then xr σ else ret (!(op == .And)) σ) fun b σ => ret (.bool b) σ) = some (r, σ') := by
    cases hxa : xa σ with
    | none => rw [hxa] at hx; cases hx
    | some q =>
      obtain ⟨q1, σ₁⟩ := q
      rw [hxa] at hx
      cases q1 with
      | exc i => exact hx
      | ok v =>
        simp only [bnd] at hx ⊢
        cases v with
        | bool b => exact hx
        | _ => cases hx
  refine wpS_bind (ha.then key st fin fun b u σ₁ g₁ h₁ tk hx k1 st₁ ra fin₁ => ?_)
  rcases bnd_split hx with ⟨b', σ₂, h1, h2⟩ | ⟨i, h1, rfl⟩
  · obtain ⟨b'', rfl, q, rfl⟩ := asB_some h1
    cases q
    rw [show u = .bool b' from ra]
    refine wpS_stand (wpS_bind (wpS_holding (wpS.of (wpAny_truthy_bool ?_))))
    cases op <;> cases b'
    · obtain ⟨rfl, rfl⟩ := ret_some (a := AV.bool false) h2
      exact wpS_pure (fin₁.pure (tk := tk) st₁ rfl)
    · exact hr h2 st₁ fin₁
    · exact hr h2 st₁ fin₁
    · obtain ⟨rfl, rfl⟩ := ret_some (a := AV.bool true) h2
      exact wpS_pure (fin₁.pure (tk := tk) st₁ rfl)
  · obtain ⟨b'', rfl, q, rfl⟩ := asB_some h1
    cases q
end
end Mine
end

section
open PySem PySem.W PyProof.Rows
set_option maxRecDepth 100000
namespace Mine
section
variable {prog : Program} {w : World} {K : Frag} {p : Program} {loose : List Str} {mean : ExcName → Option Value} {mg mb : Str → Option Value} {g₀ : Heap} {c : Cx} {fr : List Fm} {d : Nat} {m : Lo}

theorem sub_sub {o i : Expr} {pos : Pos} {xa xb : List TO → R AV} (X : K.In g₀) (ha : Sub prog w VR g₀ c fr d m (eval o c.env) xa) (hb : Sub prog w VR g₀ c fr d m (eval i c.env) xb) :
    Sub prog w VR g₀ c fr d m (eval (.Subscript o i pos) c.env) (fun σ => bnd (xa σ) fun o σ => bnd (xb σ) fun i σ => opt (subA K σ o i) σ) := by
  intro σ r σ' g mm s Q E hx st fin
  rw [arm_eval_Subscript]
  refine wpS_bind (ha.then hx st fin fun a u σ₁ g₁ h₁ tk hx k1 st₁ ra fin₁ => ?_)
  refine wpS_bind (wpS_holding (hb.then hx st₁ fin₁ fun b v σ₂ g₂ h₂ tk₂ hx k2 st₂ rb fin₂ => ?_))
  obtain ⟨a', h', rfl, rfl⟩ := opt_some hx
  exact wpS_stand (wpS.of (sub_ok (value := o) (slice := i) X h' (ra.mono k2) rb st₂ fin₂))

theorem sub_slice {o : Expr} {lo hi : Option Expr} {pos pos' : Pos} {xa : List TO → R AV} {xl xh : List TO → R (Option AV)} (ha : Sub prog w VR g₀ c fr d m (eval o c.env) xa)
    (hl : Sub prog w OptR g₀ c fr d m (valueOrNone (evalOpt lo c.env)) xl) (hh : Sub prog w OptR g₀ c fr d m (valueOrNone (evalOpt hi c.env)) xh) :
    Sub prog w VR g₀ c fr d m (eval (.Subscript o (.Slice lo hi none pos') pos) c.env) (fun σ => bnd (xa σ) fun o σ => bnd (xl σ) fun lo σ => bnd (xh σ) fun hi σ => sliceA σ o lo hi) := by
  intro σ r σ' g mm s Q E hx st fin
  rw [arm_eval_Subscript]
  refine wpS_bind (ha.then hx st fin fun a u σ₁ g₁ h₁ tk hx k1 st₁ ra fin₁ => ?_)
  refine wpS_bind (wpS_holding ?_)
  rw [arm_eval_Slice]
  refine wpS_bind (hl.then hx st₁ fin₁ fun b v σ₂ g₂ h₂ tk₂ hx k2 st₂ rb fin₂ => ?_)
  refine wpS_bind (wpS_holding (hh.then hx st₂ fin₂ fun b' v' σ₃ g₃ h₃ tk₃ hx k3 st₃ rc fin₃ => ?_))
  refine wpS_bind (wpS_holding (wpS_pure (wpS.of (wpAny_newObj_type ?_ (by size_fits)))))
  exact wpS_stand (wpS.of (slice_ok hx (ra.mono (k2.trans k3)) (rb.mono k3) rc st₃ fin₃))
end
end Mine
end

section
open PySem PySem.W PyProof.Rows
set_option maxRecDepth 100000
namespace Mine
section
variable {prog : Program} {w : World} {A : Around} {E : Value → Shared → Prop} {s : Shared}

theorem argsS {f : Value} {args : List (Bool × Sem Value)} {Q : Args → Shared → Prop} (hp : args.any (·.1) = false) (h : wpS (model prog w) A (spliced args) (fun vs s' => Q ⟨vs, []⟩ s') E s) :
    wpS (model prog w) A (evalArgs f true args []) Q E s := by
  have fin : ∀ vs s', Q ⟨vs, []⟩ s' → wpS (model prog w) A (holding (vs ++ (none : Option Value).toList) (do
      let kw := (([] : List (Option Str × Sem Value)).filterMap (·.1)).zip (← evalAll [])
      return ⟨← (pure vs : Sem (List Value)), kw⟩)) Q E s' := fun vs s' q => wpS_holding (wpS_bind (wpS_pure (wpS_bind (wpS_pure (wpS_pure q)))))
  cases args with
  | nil =>
    unfold evalArgs
    show wpS _ _ (spliced [] >>= _) _ _ _
    exact wpS_bind (wpS_q h fun vs s' q => fin vs s' q)
  | cons a r =>
    obtain ⟨b, x⟩ := a
    cases b with
    | true => simp at hp
    | false =>
      unfold evalArgs
      show wpS _ _ (spliced ((false, x) :: r) >>= _) _ _ _
      exact wpS_bind (wpS_q h fun vs s' q => fin vs s' q)

theorem callWithS {pos : Pos} {f : Value} {first : List Value} {args : List (Bool × Sem Value)} {Q : Value → Shared → Prop} (hp : args.any (·.1) = false)
    (h : wpS (model prog w) A (spliced args) (fun vs s₁ => (∃ k, Looks (model prog w) s₁.heap (keeperOf f) k) ∧ wpS (model prog w) A (call f (first ++ vs)) Q E s₁) E s) :
    wpS (model prog w) A (callWith pos f first args []) Q E s := by
  unfold callWith
  refine wpS_bind (wpS_holding (argsS hp (wpS_q h fun vs s₁ q => wpS_stand ?_)))
  obtain ⟨⟨k, hk⟩, q⟩ := q
  simp only [hp, List.any_nil, Bool.or_false]
  refine wpS_bind (wpS.of (hk.here ?_))
  have tail : ∀ {t : Sem Value}, wpS (model prog w) A t Q E s₁ → wpS (model prog w) A (t >>= fun r => holding [r] point >>= fun _ => pure r) Q E s₁ :=
    fun ht => wpS_bind (wpS_q ht fun r s₂ hr => wpS_bind (wpS_holding (wpS_point (wpS_pure hr))))
  have marked (mk : Value) : wpS (model prog w) A (callMarked mk f (first ++ vs) []) Q E s₁ := by unfold callMarked; exact wpS_keep q
  cases k <;> dsimp only
  · split
    · exact tail q
    · exact tail (marked _)
  · split
    · exact tail q
    · exact tail (marked _)
  · exact tail q
  · exact tail (wpS_operate q)

theorem backTo_plain (pos : Pos) : ∀ {l : List (Bool × Sem Value)}, l.any (·.1) = false → (backTo pos l).any (·.1) = false
  | [], _ => rfl
  | (b, x) :: r, h => by
    simp only [List.any_cons, Bool.or_eq_false_iff] at h
    simp only [backTo, List.map_cons, List.any_cons, Bool.or_eq_false_iff]
    exact ⟨h.1, backTo_plain pos h.2⟩
theorem cEs_plain {K : Frag} {locs : List Str} {sc : Scope} : ∀ {es : List Expr} {ies : List IE}, CEs K locs sc es ies → ∀ env, (starEach es env).any (·.1) = false := by
  intro es
  induction es with
  | nil => intro _ _ _; rfl
  | cons e es ih =>
    intro ies h env
    cases h with
    | cons h1 h2 =>
      rw [(cE_plain h1).star]
      simp only [List.any_cons, Bool.false_or]
      exact ih h2 env
end

section
variable {prog : Program} {w : World} {K : Frag} {p : Program} {loose : List Str} {mean : ExcName → Option Value} {mg mb : Str → Option Value} {g₀ : Heap} {c : Cx} {fr : List Fm} {d : Nat} {m : Lo}

noncomputable def CallOk (prog : Program) (w : World) (g₀ : Heap) (c : Cx) (fr : List Fm) (d : Nat) (m : Lo) (y : AV → List AV → List TO → R AV) : Prop :=
  ∀ {f : AV} {as : List AV} {u : Value} {us : List Value} {σ : List TO} {r : Ex AV} {σ' : List TO} {g : Gh} {mm : Str → Option Value} {s : Shared} {Q : Value → Shared → Prop} {E : Value → Shared → Prop}, y f as σ = some (r, σ') → VR g f u → VRs g as us → St g₀ c fr d m σ g mm s.heap → Fin VR g₀ c fr mm r σ' g s Q E →
    (∃ k, Looks (model prog w) s.heap (keeperOf u) k) ∧ wpS (model prog w) c.A (call u us) Q E s

theorem sub_call {x : Str} {np pos : Pos} {es : List Expr} {xf : List TO → R AV} {xs : List TO → R (List AV)} {y : AV → List AV → List TO → R AV} (hes : ∀ env, (starEach es env).any (·.1) = false)
    (hf : Sub prog w VR g₀ c fr d m (eval (.Name x np) c.env) xf) (hs : Sub prog w VRs g₀ c fr d m (spliced (backTo pos (starEach es c.env))) xs) (hy : CallOk prog w g₀ c fr d m y) :
    Sub prog w VR g₀ c fr d m (eval (.Call (.Name x np) es [] pos) c.env) (fun σ => bnd (xf σ) fun f σ => bnd (xs σ) fun as σ => y f as σ) := by
  intro σ r σ' g mm s Q E hx st fin
  show wpS _ _ (do callWith pos (← eval (.Name x np) c.env) [] (backTo pos (starEach es c.env)) []) _ _ _
  refine wpS_bind (hf.then hx st fin fun a u σ₁ g₁ h₁ tk hx k1 st₁ ra fin₁ => ?_)
  refine callWithS (backTo_plain pos (hes _)) (hs.then hx st₁ fin₁ fun b v σ₂ g₂ h₂ tk₂ hx k2 st₂ rb fin₂ => ?_)
  exact hy hx (ra.mono k2) rb st₂ fin₂
end
end Mine
end

section
open PySem PySem.W PyProof.Rows
set_option maxRecDepth 100000
namespace Mine
section
variable {prog : Program} {w : World} {A : Around} {E : Value → Shared → Prop} {s : Shared}

theorem look_bytes_bytes : typeLookup (.type "bytes") "__bytes__" = pure (some (.builtin "bytes.__bytes__")) := by rw [typeLookup_type, builtinLookup_eq_fast]; kernel_rfl
theorem look_barr_bytes : typeLookup (.type "bytearray") "__bytes__" = pure none := by rw [typeLookup_type, builtinLookup_eq_fast]; kernel_rfl
theorem look_barr_index : typeLookup (.type "bytearray") "__index__" = pure none := by rw [typeLookup_type, builtinLookup_eq_fast]; kernel_rfl
theorem look_barr_buffer : typeLookup (.type "bytearray") "__buffer__" = pure (some (.builtin "bytearray.__buffer__")) := by rw [typeLookup_type, builtinLookup_eq_fast]; kernel_rfl
theorem look_barr_release : typeLookup (.type "bytearray") "__release_buffer__" = pure (some (.builtin "bytearray.__release_buffer__")) := by rw [typeLookup_type, builtinLookup_eq_fast]; kernel_rfl

theorem bytes_bytes {b : Array UInt8} {t : Tok} {Q : Value → Shared → Prop} (h : Q (.bytes b t) s) : wpAny (model prog w) A (call (.type "bytes") [.bytes b t]) Q E s := by
  refine callType_codes (Q₁ := fun obj s₁ => s₁.TypeIs obj "bytes" ∧ Q obj s₁) F.bm_called (F.bm_typeCall _) F.entry_object_init ?_ fun obj s₁ h₁ =>
    ⟨h₁.1, F.args_object_init_2 obj _, object_init_meets F.bm_called.init.lookup F.bm_called.made (by decide) prog w A.in1 _ s₁ ⟨h₁.1, rfl, h₁.2⟩⟩
  have hT := typeIs_bytes s b t
  refine codeAny_call_builtin F.bm_plain F.bm_entry (wpAny_of_eq (F.bm_newCall _) ?_)
  unfold Builtin.«bytes.__new__»
  refine wpAny_bind (wpAny_of_eq (a := true) rfl (bm_if_false rfl (wpAny_bind (wpAny_of_eq F.bm_sub (bm_if_false rfl ?_)))))
  refine wpAny_bind (wpAny_of_eq (F.bm_bind _) (wpAny_bind (wpAny_of_eq (a := ()) rfl (wpAny_bind (wpAny_of_eq (a := ()) rfl ?_)))))
  refine bm_if_false rfl (wpAny_bind (wpAny_specialOf hT look_bytes_bytes ?_))
  dsimp only
  refine wpAny_bind (wpAny_rule (wpAny_bind (wpAny_of_eq (a := .type "bytes") rfl ?_)))
  refine bm_if_true (by decide) ?_
  refine bm_if_true (by decide) ?_
  exact wpAny_bind (wpAny_pure (wpAny_pure ⟨hT, h⟩))

theorem sub_barr : isSubtype (.type "bytearray") (.type "bytearray") = pure true := by rw [isSubtype_type]; kernel_rfl
theorem own_of {v : Value} {name : String} {id : String} {Q : Bool → Shared → Prop} (hT : s.TypeIs v "bytearray") (hl : typeLookup (.type "bytearray") (name : Str) = pure (some (.builtin id))) (h1 : id.endsWith ("." ++ name) = true) (h2 : (id.dropRight (name.length + 1)) = "bytearray") (h : Q true s) :
    wpAny (model prog w) A (Builtin.Bytes.slotIsOwn v name) Q E s := by
  unfold Builtin.Bytes.slotIsOwn
  refine wpAny_bind (wpAny_specialOf hT hl ?_)
  dsimp only
  rw [h1, h2]
  exact bm_if_false rfl (wpAny_isInstance hT sub_barr h)
theorem bytes_barr {b : Array UInt8} {a : Addr} {Q : Value → Shared → Prop} (ha : s.heap.get? a = some { cls := .type "bytearray", data := .bytearray b 0 }) (hz : b.size ≤ sizeLine) (h : ∀ t k, Q (.bytes b t) { s with toks := k }) : wpAny (model prog w) A (call (.type "bytes") [.ref a]) Q E s := by
  refine callType_codes (Q₁ := fun obj s₁ => s₁.TypeIs obj "bytes" ∧ Q obj s₁) F.bm_called (F.bm_typeCall _) F.entry_object_init ?_ fun obj s₁ h₁ =>
    ⟨h₁.1, F.args_object_init_2 obj _, object_init_meets F.bm_called.init.lookup F.bm_called.made (by decide) prog w A.in1 _ s₁ ⟨h₁.1, rfl, h₁.2⟩⟩
  have hT : s.TypeIs (.ref a) "bytearray" := ⟨_, ha, rfl⟩
  refine codeAny_call_builtin F.bm_plain F.bm_entry (wpAny_of_eq (F.bm_newCall _) ?_)
  unfold Builtin.«bytes.__new__»
  refine wpAny_bind (wpAny_of_eq (a := true) rfl (bm_if_false rfl (wpAny_bind (wpAny_of_eq F.bm_sub (bm_if_false rfl ?_)))))
  refine wpAny_bind (wpAny_of_eq (F.bm_bind _) (wpAny_bind (wpAny_of_eq (a := ()) rfl (wpAny_bind (wpAny_of_eq (a := ()) rfl ?_)))))
  refine bm_if_false rfl (wpAny_bind (wpAny_specialOf hT look_barr_bytes ?_))
  refine wpAny_bind (wpAny_bind ?_)
  show wpAny _ _ (load a >>= _) _ _ _
  refine wpAny_bind (wpAny_load ha ?_)
  refine wpAny_pure (wpAny_pure ?_)
  refine bm_if_false rfl ?_
  refine wpAny_bind (wpAny_specialOf hT look_barr_index ?_)
  refine bm_if_true rfl ?_
  first
    | show wpAny _ _ (Builtin.Bytes.buffer? "bytes.__new__" (.ref a) true >>= _) _ _ _
    | (refine wpAny_bind ?_; show wpAny _ _ (Builtin.Bytes.buffer? "bytes.__new__" (.ref a) true >>= _) _ _ _)
  refine wpAny_bind ?_
  unfold Builtin.Bytes.buffer?
  refine wpAny_bind (wpAny_specialOf hT look_barr_buffer ?_)
  dsimp only
  refine wpAny_bind (own_of hT look_barr_buffer (by decide +kernel) (by decide +kernel) (bm_if_false rfl ?_))
  refine wpAny_bind (wpAny_specialOf hT look_barr_buffer ?_)
  refine wpAny_bind ?_
  unfold Builtin.Bytes.ownRelease
  refine wpAny_bind (own_of hT look_barr_release (by decide +kernel) (by decide +kernel) (wpAny_pure (bm_if_false rfl ?_)))
  unfold Builtin.Bytes.payload Builtin.Bytes.payload?
  refine wpAny_bind (wpAny_bind (wpAny_bind (wpAny_load ha (wpAny_pure (wpAny_pure (wpAny_pure ?_))))))
  refine wpAny_bind (wpAny_rule ?_)
  refine wpAny_bind (wpAny_mkBytes ?_ hz)
  refine bm_if_true (by decide) ?_
  exact wpAny_bind (wpAny_pure (wpAny_pure ⟨typeIs_bytes _ _ _, h _ _⟩))
end
end Mine
end

section
open PySem PySem.W PyProof.Rows
set_option maxRecDepth 1000000
namespace Mine
section
variable {prog : Program} {w : World} {A : Around} {E : Value → Shared → Prop} {R : Result → Shared → Prop} {s : Shared}

theorem codeS_builtin {id : String} {args : Args} {b : Builtin} (hn : holders.contains id = false) (hb : entryFor table id = some b)
    (h : wpS (model prog w) (A.under (.builtin id args)) (b args) (fun fin s' => match fin with | .done f => R (.ok f) s' | .again c' => c'.quiet = true ∧ codeS (model prog w) A c' R s') (fun e s' => R (.error e) s') s) :
    codeS (model prog w) A (.builtin id args) R s := by
  refine codeS_of_tree (by rw [noHold_b, hn]; rfl) ?_
  show wpS _ _ (match entryFor table id with | some b => b args | none => unsupported ((withoutEnding? id "#data").getD id)) _ _ s
  rw [hb]; exact h
theorem codeS_call_builtin {id : String} {args : Args} {b : Builtin} (hq : plainId id = true) (hn : holders.contains id = false) (hb : entryFor table id = some b)
    (h : wpS (model prog w) A.in1 (checkBuiltinCall id args) (fun _ s₁ => wpS (model prog w) A.in1 (b args) (fun fin s' => match fin with | .done f => R (.ok f) s' | .again c' => c'.quiet = true ∧ codeS (model prog w) A c' R s') (fun e s' => R (.error e) s') s₁) (fun e s' => R (.error e) s') s) :
    codeS (model prog w) A (.call (.builtin id) args) R s := by
  refine codeS_of_tree rfl ?_
  show wpS _ A.in1 (do checkBuiltinCall id args; again (.builtin id args)) _ _ s
  refine wpS_bind (wpS_q h fun _ s₁ h₁ => wpS_pure ⟨plainId_quiet hq args, codeS_builtin hn hb ?_⟩)
  rw [Around.under_plainId hq args]
  exact h₁
theorem if_falseS {α : Type} {M : Model} {c : Bool} {a b : Sem α} {Q : α → Shared → Prop} (hc : c = false) (h : wpS M A b Q E s) : wpS M A (if c = true then a else b) Q E s := by subst hc; exact h
theorem of_eqS {α : Type} {M : Model} {t : Sem α} {a : α} {Q : α → Shared → Prop} (e : t = pure a) (h : Q a s) : wpS M A t Q E s := by rw [e]; exact wpS_pure h

theorem barr_mro : mroOf (.type "bytearray") = pure [.type "bytearray", .type "object"] := by rw [mroOf_type]; kernel_rfl
theorem barr_lookup_new : typeLookup (.type "bytearray") "__new__" = pure (some (.builtin "bytearray.__new__")) := by rw [typeLookup_type, builtinLookup_eq_fast]; kernel_rfl
theorem barr_made : Bind.madeBy (.type "bytearray") = pure (some "bytearray.__new__") := madeBy_type barr_mro barr_lookup_new (by decide +kernel)
theorem barr_slot_init : Slot "bytearray" "__init__" "bytearray.__init__" :=
  .of (owner := "bytearray") (n := "__init__") (by rw [typeLookup_type, builtinLookup_eq_fast]; kernel_rfl) (by decide +kernel) (by decide +kernel) (by decide +kernel)
    (by first | exact .inl (by decide +kernel) | exact .inr (by decide +kernel)) (by rw [isSubtype_type]; kernel_rfl)
theorem barr_called : TypeCalled "bytearray" "bytearray.__new__" "bytearray.__init__" :=
  ⟨by decide +kernel, by decide +kernel, ⟨_, _, barr_mro⟩, barr_made, by decide +kernel, sub_barr, barr_slot_init⟩
theorem barr_typeCall : checkTypeCall "bytearray" ⟨[], []⟩ = pure () := by kernel_rfl
theorem barr_newCall : checkBuiltinCall "bytearray.__new__" ⟨[.type "bytearray"], []⟩ = pure () := by kernel_rfl
theorem barr_entry_new : entryFor table "bytearray.__new__" = some Builtin.«list.__new__» := by
  first
    | exact entryFor_alias (id' := "list.__new__") (by kernel_rfl) rfl (by decide +kernel) (by kernel_rfl)
    | exact entryFor_alias (id' := "list.__new__") (by rw [fastTable_eq_tree]; kernel_rfl) rfl (by decide +kernel) (by rw [fastTable_eq_tree]; kernel_rfl)
theorem barr_plain_new : plainId "bytearray.__new__" = true := by decide +kernel
set_option maxHeartbeats 4000000 in
theorem barr_owner : ("bytearray.__new__".splitOn ".__new__").headD "" = "bytearray" := by simp +decide [String.splitOn, String.splitOnAux]
theorem barr_entry_init : entryFor table "bytearray.__init__" = some Builtin.«bytearray.__init__» := by first | exact entryFor_of_fast (by kernel_rfl) | exact entryFor_of_tree (by kernel_rfl)
theorem barr_init_args (v : Value) : argsOk "bytearray.__init__" ⟨[v], []⟩ := by unfold argsOk; kernel_rfl
theorem barr_bind : Builtin.Bytes.bindOptional "bytearray.__init__" "bytearray" ["source", "encoding", "errors"] [] [] = pure [none, none, none] := by kernel_rfl

theorem barr_new {Q₁ : Value → Shared → Prop} (h : Q₁ (.ref s.heap.objs.size) { s with heap := s.heap.push { cls := .type "bytearray", data := .bytearray #[] } }) :
    codeAny (model prog w) A (.call (.builtin "bytearray.__new__") ⟨[.type "bytearray"], []⟩) (wants Q₁ E) s := by
  refine codeAny_of_tree ?_
  show wpAny _ A.in1 (do checkBuiltinCall "bytearray.__new__" ⟨[.type "bytearray"], []⟩; again (.builtin "bytearray.__new__" ⟨[.type "bytearray"], []⟩)) _ _ s
  refine wpAny_bind (wpAny_of_eq barr_newCall (wpAny_pure ⟨plainId_quiet barr_plain_new _, codeAny_builtin_stack barr_entry_new rfl fun p st => ?_⟩))
  rw [Around.under_plainId barr_plain_new _]
  have hsub := sub_barr
  have hown := barr_owner
  obtain ⟨hp, g, d, tk, os⟩ := s
  simp only [hown]
  wp_walk
  exact h

theorem barr_new_call {Q : Value → Shared → Prop} (h : Q (.ref s.heap.objs.size) { s with heap := s.heap.push { cls := .type "bytearray", data := .bytearray #[] } }) :
    wpAny (model prog w) A (call (.builtin "bytearray.__new__") [.type "bytearray"]) Q E s := wpAny_call (codeAny_mono (barr_new (E := E) (Q₁ := Q) h) fun r s' z => z)
theorem exp_no {a : Addr} {b : Array UInt8} {Q : Bool → Shared → Prop} (ha : s.heap.get? a = some { cls := .type "bytearray", data := .bytearray b 0 }) (h : Q false s) :
    wpS (model prog w) A (Builtin.Bytes.exported (.ref a) <||> (do return (← Builtin.Bytes.exportsOf (.ref a)) > 0)) Q E s := by
  show wpS _ _ (Builtin.Bytes.exported (.ref a) >>= _) _ _ _
  refine wpS_bind (exported_no ?_)
  unfold Builtin.Bytes.exportsOf
  exact wpS_bind (wpS_bind (wpS_load ha (wpS_pure (wpS_pure h))))
theorem barr_write {a : Addr} {b : Array UInt8} {f : Array UInt8 → Array UInt8} {Q : Unit → Shared → Prop} (ha : s.heap.get? a = some { cls := .type "bytearray", data := .bytearray b 0 }) (hz : (f b).size ≤ sizeLine) (h : Q () { s with heap := s.heap.update a (Obj.mapBytearray f) }) :
    wpAny (model prog w) A (Builtin.Bytes.write (.ref a) f) Q E s := by
  show wpAny _ _ (updateBytearray a f) _ _ _
  unfold updateBytearray
  refine wpAny_bind (wpAny_load ha ?_)
  show wpAny _ _ (update a (Obj.mapBytearray f) >>= fun _ => lookBehind a) _ _ _
  refine wpAny_bind (wpAny_update ha ?_)
  have h2 : (s.heap.update a (Obj.mapBytearray f)).get? a = some { cls := .type "bytearray", data := .bytearray (f b) 0 } := Heap.get?_update_self (Obj.mapBytearray f) ha rfl
  refine wpAny_lookBehind h2 ?_ h
  show (if (f b).size > sizeLine then some "bytearray:memory" else none) = none
  rw [if_neg (Nat.not_lt.mpr hz)]
theorem barr_init {a : Addr} {Q : PySem.Fin → Shared → Prop} (ha : s.heap.get? a = some { cls := .type "bytearray", data := .bytearray #[] 0 }) (h : Q (.done (.ret .none)) { s with heap := s.heap.update a (Obj.mapBytearray fun _ => #[]) }) :
    wpS (model prog w) A (Builtin.«bytearray.__init__» ⟨[.ref a], []⟩) Q E s := by
  have hT : s.TypeIs (.ref a) "bytearray" := ⟨_, ha, rfl⟩
  unfold Builtin.«bytearray.__init__»
  dsimp only
  refine wpS_bind (wpS.of ?_)
  unfold Builtin.Bytes.ownRelease
  refine wpAny_bind (own_of hT look_barr_release (by decide +kernel) (by decide +kernel) (wpAny_pure ?_))
  refine if_falseS rfl ?_
  refine wpS_bind (of_eqS barr_bind ?_)
  dsimp only
  refine wpS_bind (of_eqS (a := ()) rfl (wpS_bind (of_eqS (a := ()) rfl ?_)))
  refine wpS_bind (exp_no ha (if_falseS rfl ?_))
  refine wpS_bind (wpS.of (barr_write ha (Nat.zero_le _) ?_))
  exact wpS_pure h

theorem barr_call {Q : Value → Shared → Prop} (h : Q (.ref s.heap.objs.size) { s with heap := (s.heap.push { cls := .type "bytearray", data := .bytearray #[] }).update s.heap.objs.size (Obj.mapBytearray fun _ => #[]) }) :
    wpS (model prog w) A (call (.type "bytearray") []) Q E s := by
  obtain ⟨c, tl, hmro⟩ := barr_called.mro
  refine wpS_call (codeS_of_tree rfl ?_)
  show wpS _ _ (callAny (.type "bytearray") _) _ _ _
  refine wpS_pure ⟨Code.quiet_builtin _ (by decide +kernel), codeS_builtin (by decide +kernel) F.entry_type_call ?_⟩
  rw [Around.under_plain (weight_type_call_type "bytearray" [] []) rfl]
  unfold Builtin.«type.__call__»
  dsimp only
  refine if_falseS barr_called.notType ?_
  refine if_falseS barr_called.canCreate ?_
  refine wpS_bind (of_eqS barr_typeCall ?_)
  refine wpS_bind (of_eqS hmro ?_)
  refine if_falseS rfl ?_
  refine wpS_bind (of_eqS barr_made ?_)
  dsimp only
  refine wpS_bind (of_eqS rfl ?_)
  refine wpS_bind (wpS_holding (wpS.of (barr_new_call ?_)))
  have ha : (s.heap.push { cls := .type "bytearray", data := .bytearray #[] }).get? s.heap.objs.size = some { cls := .type "bytearray", data := .bytearray #[] } := Heap.get?_push_size _ rfl
  have hT : ({ s with heap := s.heap.push { cls := .type "bytearray", data := .bytearray #[] } } : Shared).TypeIs (.ref s.heap.objs.size) "bytearray" := ⟨_, ha, rfl⟩
  refine wpS_bind (wpS.of (wpAny_isInstance hT sub_barr (if_falseS rfl ?_)))
  unfold callSpecial?
  refine wpS_bind (wpS_holding (wpS_bind (wpS.of (wpAny_specialOf hT barr_slot_init.lookup ?_))))
  dsimp only
  refine wpS_holding ?_
  rw [barr_slot_init.bind]
  refine wpS_bind (wpS_pure (wpS_bind (wpS_call (codeS_call_builtin barr_slot_init.plain (by decide +kernel) barr_entry_init ?_))))
  refine wpS.of (barr_slot_init.check _ _ _ _ _ _ _ _ hT (barr_init_args _) (barr_init ha ?_))
  exact wpS_pure (wpS_pure h)

theorem barr_slot_append : Slot "bytearray" "append" "bytearray.append" :=
  .of (owner := "bytearray") (n := "append") (by rw [typeLookup_type, builtinLookup_eq_fast]; kernel_rfl) (by decide +kernel) (by decide +kernel) (by decide +kernel)
    (by first | exact .inl (by decide +kernel) | exact .inr (by decide +kernel)) (by rw [isSubtype_type]; kernel_rfl)
theorem barr_entry_append : entryFor table "bytearray.append" = some Builtin.«bytearray.append» := by first | exact entryFor_of_fast (by kernel_rfl) | exact entryFor_of_tree (by kernel_rfl)
theorem barr_append_args (v x : Value) : argsOk "bytearray.append" ⟨[v, x], []⟩ := by unfold argsOk; kernel_rfl
theorem barr_append {a : Addr} {b : Array UInt8} {i : Int} {t : Tok} {Q : Value → Shared → Prop} (ha : s.heap.get? a = some { cls := .type "bytearray", data := .bytearray b 0 }) (h0 : 0 ≤ i) (h1 : i < 256) (hz : b.size < sizeLine)
    (h : Q .none { s with heap := s.heap.update a (Obj.mapBytearray (·.push i.toNat.toUInt8)) }) :
    wpS (model prog w) A (call (.builtin "bytearray.append") [.ref a, .int i t]) Q E s := by
  have hT : s.TypeIs (.ref a) "bytearray" := ⟨_, ha, rfl⟩
  refine wpS_call (codeS_call_builtin barr_slot_append.plain (by decide +kernel) barr_entry_append ?_)
  refine wpS.of (barr_slot_append.check _ _ _ _ _ _ _ _ hT (barr_append_args _ _) ?_)
  unfold Builtin.«bytearray.append»
  refine wpS_bind (of_eqS rfl ?_)
  dsimp only
  unfold Builtin.Bytes.byteValue
  refine wpS_bind (wpS_bind (of_eqS (rfl : asIndex (.int i t) = pure i) ?_))
  refine if_falseS (by simp only [Bool.or_eq_false_iff, decide_eq_false_iff_not]; omega) (wpS_pure ?_)
  unfold Builtin.Bytes.checkResize
  refine wpS_bind (wpS_bind (exp_no ha (if_falseS rfl (wpS_pure ?_))))
  refine wpS_bind (wpS.of (barr_write ha (by rw [Array.size_push]; exact hz) ?_))
  exact wpS_pure h
end
end Mine
end

section
open PySem PySem.W PyProof.Rows
set_option maxRecDepth 100000
namespace Mine
theorem keeper_plain {M : Model} {h : Heap} {f : Value} (hf : ∀ a, f ≠ .ref a) : ∃ k, Looks M h (keeperOf f) k := by
  refine ⟨.machine, Looks.of_pure ?_⟩
  cases f <;> first | rfl | exact absurd rfl (hf _)

theorem figVal_eq (l : List Nat) : figVal l = NumText.digitsVal l := rfl
section
variable {prog : Program} {w : World} {K : Frag} {p : Program} {loose : List Str} {mean : ExcName → Option Value} {mg mb : Str → Option Value} {g₀ : Heap} {c : Cx} {fr : List Fm} {d : Nat} {m : Lo}
  {σ σ' : List TO} {r : Ex AV} {g : Gh} {mm : Str → Option Value} {s : Shared} {Q : Value → Shared → Prop} {E : Value → Shared → Prop}

theorem VRs.one {g : Gh} {a : AV} {us : List Value} (h : VRs g [a] us) : ∃ u, us = [u] ∧ VR g a u := by
  refine cont fun PP kq => ?_
  obtain ⟨v, vs, e, h1, h2⟩ := h
  refine kq ?_
  rw [show vs = [] from h2] at e
  exact ⟨v, e, h1⟩
theorem VRs.two {g : Gh} {a b : AV} {us : List Value} (h : VRs g [a, b] us) : ∃ u v, us = [u, v] ∧ VR g a u ∧ VR g b v := by
  refine cont fun PP kq => ?_
  obtain ⟨v, vs, e, h1, h2⟩ := h
  obtain ⟨u, rfl, h3⟩ := h2.one
  refine kq ?_
  exact ⟨v, u, e, h1, h3⟩

theorem byteArr_eq {l : List Int} : PySem.byteArr l = (l.map fun c => UInt8.ofNat c.toNat).toArray := rfl

theorem callB_ok {f : Value} {as : List AV} {us : List Value} (C : CxOk c) (hx : callB σ f as = some (r, σ')) (ha : VRs g as us) (st : St g₀ c fr d m σ g mm s.heap) (fin : Fin VR g₀ c fr mm r σ' g s Q E) :
    (∃ k, Looks (model prog w) s.heap (keeperOf f) k) ∧ wpS (model prog w) c.A (call f us) Q E s := by
  unfold callB at hx
  split at hx
  · -- len
    rename_i e; subst e
    refine ⟨keeper_plain (by intro a; nofun), ?_⟩
    obtain ⟨a0, q, q2⟩ := bind_of hx
    clear hx
    obtain rfl := one_of q
    have hx := q2
    clear q q2
    unfold lenB at hx
    cases a0 <;> try (cases hx; done)
    · obtain ⟨u, rfl, t, rfl⟩ := ha.one
      dsimp only at hx
      split at hx
      · rename_i hl
        obtain ⟨rfl, rfl⟩ := ret_some hx
        refine wpS.of (PyProof.Rows.len_str (by simp [Str.length]; omega) (fin.pure st ⟨s.toks + 1, by simp [Str.length]⟩))
      · cases hx
    · obtain ⟨u, rfl, t, rfl⟩ := ha.one
      dsimp only at hx
      split at hx
      · rename_i hl
        obtain ⟨rfl, rfl⟩ := ret_some hx
        exact wpS.of (len_bytes (by simp; omega) (fin.pure st ⟨s.toks + 1, by simp⟩))
      · cases hx
    · obtain ⟨u, rfl, x, rfl, l⟩ := ha.one
      obtain ⟨vs, e, q2⟩ := bind_of hx
      clear hx
      replace e := lst_of e
      · split at q2
        · rename_i hl
          obtain ⟨rfl, rfl⟩ := ret_some q2
          refine cont fun PP kq => ?_
          obtain ⟨x', l', items, n, hx', z⟩ := st.I.so _ _ e
          rw [l] at l'; cases l'
          refine kq ?_
          have hz := z.length
          rw [Array.length_toList] at hz
          exact wpS.of (Calls.call_len_list (isList_of hx') (by omega) (fin.pure st ⟨s.toks + 1, by rw [hz]⟩))
        · cases q2
  split at hx
  · -- ord
    rename_i e; subst e
    refine ⟨keeper_plain (by intro a; nofun), ?_⟩
    obtain ⟨a0, q, q2⟩ := bind_of hx
    clear hx
    obtain rfl := one_of q
    obtain ⟨s0, q3, q4⟩ := bind_of q2
    clear q2
    obtain rfl := str_of q3
    obtain ⟨c0, q5, q6⟩ := bind_of q4
    clear q4
    obtain rfl := one_of q5
    obtain ⟨u, rfl, t, rfl⟩ := ha.one
    obtain ⟨rfl, rfl⟩ := ret_some q6
    exact wpS.of (P.ord_of_char (fin.pure st ⟨_, rfl⟩))
  split at hx
  · -- chr
    rename_i e; subst e
    refine ⟨keeper_plain (by intro a; nofun), ?_⟩
    obtain ⟨a0, q, q2⟩ := bind_of hx
    clear hx
    obtain rfl := one_of q
    obtain ⟨c0, q3, hx⟩ := bind_of q2
    clear q2
    obtain rfl := int_of q3
    · obtain ⟨u, rfl, t, rfl⟩ := ha.one
      split at hx
      · rename_i hl
        obtain ⟨rfl, rfl⟩ := ret_some hx
        exact wpS.of (P.chr_of_int (by simp only [Bool.or_eq_false_iff, decide_eq_false_iff_not]; omega) (fin.pure st ⟨_, rfl⟩))
      · cases hx
  split at hx
  · -- bytes
    rename_i e; subst e
    refine ⟨keeper_plain (by intro a; nofun), ?_⟩
    obtain ⟨a0, q, q2⟩ := bind_of hx
    clear hx
    obtain rfl := one_of q
    have hx := q2
    clear q q2
    unfold bytB at hx
    cases a0 <;> try (cases hx; done)
    · obtain ⟨u, rfl, t, rfl⟩ := ha.one
      obtain ⟨rfl, rfl⟩ := ret_some hx
      exact wpS.of (bytes_bytes (fin.pure (tk := s.toks) st ⟨_, rfl⟩))
    · obtain ⟨u, rfl, x, rfl, l⟩ := ha.one
      dsimp only at hx
      split at hx
      · rename_i vs e
        replace e := lst_of e
        refine cont fun PP kq => ?_
        obtain ⟨v, hv, rfl, rfl⟩ := opt_some hx
        refine kq ?_
        simp only [Option.bind_eq_some_iff] at hv
        obtain ⟨ns, hn, hv⟩ := hv
        unfold bytesOfInts at hv
        split at hv
        · rename_i hc
          cases hv
          refine cont fun PP kq => ?_
          obtain ⟨x', l', items, n, hx', z⟩ := st.I.so _ _ e
          rw [l] at l'; cases l'
          refine kq ?_
          have hI := ints_are hn z
          refine wpS.of (call_bytes_ints (vs := items.toList) (by simpa using isList_of hx') hI (fun n hn => ?_) (by rw [hI.length, sizeLine_eq]; omega) C.hh fun h' t k hk => fin.made st hk ⟨t, ?_⟩)
          · have := List.all_eq_true.mp hc.1 n hn
            simpa using this
          · rw [byteArr_eq]
        · cases hv
      · obtain ⟨b, e, q2⟩ := bind_of hx
        clear hx
        have hx := q2
        clear q2
        replace e := barr_of e
        split at hx
        · rename_i hl
          obtain ⟨rfl, rfl⟩ := ret_some hx
          obtain ⟨x', l', z⟩ := st.I.so _ _ e
          rw [l] at l'; cases l'
          exact wpS.of (bytes_barr z (by rw [sizeLine_eq, List.size_toArray]; omega) fun t k => fin.pure st ⟨t, rfl⟩)
        · cases hx
  split at hx
  · -- bytearray
    rename_i e; subst e
    refine ⟨keeper_plain (by intro a; nofun), ?_⟩
    split at hx
    · rename_i hn0
      obtain rfl := List.isEmpty_iff.mp hn0
      obtain rfl : us = [] := ha
      simp only [mk, Option.some.injEq, Prod.mk.injEq] at hx
      obtain ⟨rfl, rfl⟩ := hx
      refine barr_call ?_
      have hp : (s.heap.push { cls := .type "bytearray", data := .bytearray #[] }).get? s.heap.objs.size = some { cls := .type "bytearray", data := .bytearray #[] } := Heap.get?_push_size _ rfl
      have kp : ∀ b o', s.heap.get? b = some o' → ((s.heap.push { cls := .type "bytearray", data := .bytearray #[] }).update s.heap.objs.size (Obj.mapBytearray fun _ => #[])).get? b = some o' := fun b o e =>
        (Heap.get?_update_other _ _ (fun q => by rw [← q, get_size] at e; cases e)).trans (Heap.get?_push_of_some _ e)
      have hT := st.I.track (t := .barr []) kp (get_size _) st.I.size_le (Heap.get?_update_self (Obj.mapBytearray fun _ => #[]) hp rfl)
      exact fin.ok _ rfl _ _ _ s.toks hT.1 hT.2 ⟨_, rfl, by simp [Gh.track]⟩
    · cases hx
  split at hx
  · -- int
    rename_i e; subst e
    refine ⟨keeper_plain (by intro a; nofun), ?_⟩
    obtain ⟨a0, q, q2⟩ := bind_of hx
    clear hx
    obtain rfl := one_of q
    have hx := q2
    clear q q2
    unfold intB at hx
    cases a0 <;> try (cases hx; done)
    rotate_left
    · rename_i x
      obtain ⟨u, rfl, t, rfl⟩ := ha.one
      dsimp only at hx
      split at hx
      · rename_i hl
        obtain ⟨rfl, rfl⟩ := ret_some hx
        have h1 := hl.1
        simp only [figs, Bool.and_eq_true, bne_iff_ne, ne_eq, List.all_eq_true, decide_eq_true_eq] at h1
        have e := PySem.intText_digits (x := ⟨x.toArray⟩) (fun c hc => h1.2 c (by simpa using hc)) (by simpa using h1.1) (by simp [Str.length]; omega)
        refine wpS.of (KIN.call_text e (by simp [Str.length]; omega) (fin.pure st ⟨s.toks, ?_⟩))
        rw [figVal_eq]
      · cases hx
    · obtain ⟨u, rfl, t, rfl⟩ := ha.one
      obtain ⟨rfl, rfl⟩ := ret_some hx
      exact wpS.of (call_int_int (fin.pure (tk := s.toks) st ⟨_, rfl⟩))
  · cases hx
end
end Mine
end

section
open PySem PySem.W PyProof.Rows
set_option maxRecDepth 100000
namespace Mine

/-! split by one sign -/
noncomputable def joinL (c : Nat) : List (List Nat) → List Nat
  | [] => []
  | [x] => x
  | x :: r => x ++ c :: joinL c r
theorem splitL_ne (c : Nat) : ∀ s, splitL c s ≠ []
  | [] => by simp [splitL]
  | x :: r => by
    simp only [splitL]
    split
    · simp
    · split <;> simp
theorem splitL_free (c : Nat) : ∀ (p s : List Nat), c ∉ p → splitL c (p ++ s) = match splitL c s with
    | [] => [p]
    | q :: qs => (p ++ q) :: qs
  | [], s, _ => by
    have := splitL_ne c s
    cases e : splitL c s with
    | nil => exact absurd e this
    | cons q qs => simp [e]
  | x :: p, s, h => by
    have hx : x ≠ c := fun q => h (by rw [q]; exact List.mem_cons_self)
    rw [List.cons_append, splitL, if_neg hx, splitL_free c p s (fun q => h (List.mem_cons_of_mem _ q))]
    have := splitL_ne c s
    cases e : splitL c s with
    | nil => exact absurd e this
    | cons q qs => rfl
theorem splitL_join (c : Nat) : ∀ ps : List (List Nat), ps ≠ [] → (∀ p ∈ ps, c ∉ p) → splitL c (joinL c ps) = ps
  | [], h, _ => absurd rfl h
  | [x], _, h => by
    have := splitL_free c x [] (h x List.mem_cons_self)
    simpa [joinL, splitL] using this
  | x :: y :: r, _, h => by
    rw [joinL, splitL_free c x _ (h x List.mem_cons_self), splitL, if_pos rfl, splitL_join c (y :: r) (by simp) (fun p hp => h p (List.mem_cons_of_mem _ hp))]
    simp
    nofun
theorem join_cps (c : Nat) : ∀ ps : List Str, (Str.join ⟨#[c]⟩ ps).cps.toList = joinL c (ps.map (·.cps.toList))
  | [] => rfl
  | [x] => rfl
  | x :: y :: r => by
    have := join_cps c (y :: r)
    simp only [Str.join, List.map_cons, joinL]
    show (Str.append (Str.append x ⟨#[c]⟩) _).cps.toList = _
    simp only [Str.append, Array.toList_append]
    rw [this]
    simp [joinL]
end Mine
end

section
open PySem PySem.W PyProof.Rows
set_option maxRecDepth 100000
namespace Mine

theorem barr_attrs : PlainAttrs "bytearray" := ⟨⟨"bytearray.__getattribute__", by rw [typeLookup_type, builtinLookup_eq_fast]; kernel_rfl, by decide +kernel⟩, by rw [typeLookup_type, builtinLookup_eq_fast]; kernel_rfl⟩
theorem barr_type_append : typeOf (.builtin "bytearray.append") = pure (.type "method_descriptor") := by show builtinType _ = _; rw [builtinType_eq_fast]; kernel_rfl

theorem ite_elim {α : Type} {c P : Prop} [Decidable c] {a b : Option α} {r : α} (h : (if c then a else b) = some r) (h1 : c → a = some r → P) (h2 : b = some r → P) : P := by
  by_cases hc : c
  · rw [if_pos hc] at h; exact h1 hc h
  · rw [if_neg hc] at h; exact h2 h
noncomputable def nmOf (K : Frag) (name : Str) : MK → Prop
    | .split => name = Str.ofString "split"
    | .lower => name = Str.ofString "lower"
    | .upper => name = Str.ofString "upper"
    | .pop => name = Str.ofString "pop"
    | .index => name = Str.ofString "index"
    | .append => name = Str.ofString "append"
    | .join => name = Str.ofString "join"
    | .own n f => n = name ∧ wireM K name = some f
theorem nm_at {K : Frag} {name : Str} {k k' : MK} (h : some k' = some k) (e : nmOf K name k') : nmOf K name k := Option.some.inj h ▸ e
theorem cMeth_name {K : Frag} {name : Str} {k : MK} (h : cMeth K name = some k) : nmOf K name k := by
  unfold cMeth at h
  iterate 7 refine ite_elim h (fun e h => nm_at h e) fun h => ?_
  obtain ⟨f, hf, rfl⟩ := Option.map_eq_some_iff.mp h
  exact ⟨rfl, hf⟩

noncomputable def midOf : MK → Nat → String
  | .split, _ => "str.split"
  | .lower, _ => "str.lower"
  | .upper, _ => "str.upper"
  | .pop, _ => "list.pop"
  | .index, 1 => "list.index"
  | .index, _ => "tuple.index"
  | .append, _ => "bytearray.append"
  | .join, _ => "str.join"
  | .own _ _, _ => ""

structure MOf (s : Shared) (u : Value) (name : Str) (T id : String) : Prop where
  pa : PlainAttrs T
  slot : Slot T name id
  ty : typeOf (.builtin id) = pure (.type "method_descriptor")
  is : s.TypeIs u T
  nd : ∀ a, u = .ref a → ∃ o, s.heap.get? a = some o ∧ o.dict = none

section
variable {prog : Program} {w : World} {K : Frag} {p : Program} {loose : List Str} {mean : ExcName → Option Value} {mg mb : Str → Option Value} {g₀ : Heap} {c : Cx} {fr : List Fm} {d : Nat} {m : Lo}
  {σ σ' : List TO} {g : Gh} {mm : Str → Option Value} {s : Shared}

theorem str_mof {u : Value} {x : List Nat} {name : Str} {id : String} (hu : VR g (.str x) u) (slot : Slot "str" name id) (ty : typeOf (.builtin id) = pure (.type "method_descriptor")) : MOf s u name "str" id := by
  obtain ⟨t, rfl⟩ := hu
  exact ⟨F.plainAttrs_str, slot, ty, typeIs_str _ _ _, fun a e => nomatch e⟩

theorem get_ok {name : Str} {k : MK} {o : AV} {u : Value} {as : List AV} {r : Ex AV} {σ'' : List TO} (X : K.In g₀) (hk : cMeth K name = some k) (h : methB K σ' k o as = some (r, σ'')) (hkd : kindT σ o = kindT σ' o) (hu : VR g o u) (I : Inv g₀ g fr σ s.heap) :
    ∃ T, MOf s u name T (midOf k (kindT σ o)) := by
  have hn := cMeth_name hk
  have lstOf : ∀ {i : Nat} {vs : List AV}, lstAt σ' i = some vs → o = .loc i → ∃ a items n, u = .ref a ∧ s.heap.get? a = some (lstObj items n) ∧ kindT σ o = 1 := by
    intro i vs e q
    subst q
    have e' : kindT σ (.loc i) = 1 := by rw [hkd]; simp [kindT, lst_of e]
    obtain ⟨x, rfl, l⟩ := hu
    have e'' := e'
    simp only [kindT] at e''
    split at e'' <;> try (exact absurd e'' (by decide))
    rename_i vs' e2
    refine cont fun PP kq => ?_
    obtain ⟨x', l', items, n, hx, z⟩ := I.so _ _ e2
    rw [l] at l'; cases l'
    refine kq ?_
    exact ⟨x, items, n, rfl, hx, e'⟩
  cases k
  case split => obtain ⟨x, h1, -⟩ := bind_of h; obtain rfl := str_of h1; rw [show name = Str.ofString "split" from hn]; exact ⟨_, str_mof hu F.slot_str_split F.type_str_split⟩
  case lower => obtain ⟨x, h1, -⟩ := bind_of h; obtain rfl := str_of h1; rw [show name = Str.ofString "lower" from hn]; exact ⟨_, str_mof hu F.slot_str_lower F.type_str_lower⟩
  case upper => obtain ⟨x, h1, -⟩ := bind_of h; obtain rfl := str_of h1; rw [show name = Str.ofString "upper" from hn]; exact ⟨_, str_mof hu F.slot_str_upper F.type_str_upper⟩
  case join => obtain ⟨x, h1, -⟩ := bind_of h; obtain rfl := str_of h1; rw [show name = Str.ofString "join" from hn]; exact ⟨_, str_mof hu F.slot_str_join F.type_str_join⟩
  case own => cases h
  case pop =>
    obtain ⟨i, h1, h2⟩ := bind_of h
    obtain ⟨_, -, h3⟩ := bind_of h2
    obtain ⟨_, -, h4⟩ := bind_of h3
    split at h4
    · obtain ⟨vs, e, -⟩ := bind_of h4
      refine cont fun PP kq => ?_
      obtain ⟨a, items, n, rfl, hx, -⟩ := lstOf e (loc_of h1)
      refine kq ?_
      rw [show name = Str.ofString "pop" from hn]
      exact ⟨"list", F.plainAttrs_list, F.slot_list_pop, F.type_list_pop, ⟨_, hx, rfl⟩, fun a q => by cases q; exact ⟨_, hx, rfl⟩⟩
    · cases h4
  case index =>
    obtain ⟨_, -, h2⟩ := bind_of h
    obtain ⟨_, -, h3⟩ := bind_of h2
    rw [show name = Str.ofString "index" from hn]
    split at h3
    · obtain ⟨vs, e, -⟩ := bind_of h3
      refine cont fun PP kq => ?_
      obtain ⟨a, items, n, rfl, hx, e'⟩ := lstOf e rfl
      refine kq ?_
      rw [e']
      exact ⟨"list", F.plainAttrs_list, F.slot_list_index, F.type_list_index, ⟨_, hx, rfl⟩, fun a q => by cases q; exact ⟨_, hx, rfl⟩⟩
    · obtain ⟨v, hv, -, -⟩ := opt_some h3
      obtain ⟨vs, h1, -⟩ := bind_of hv
      refine cont fun PP kq => ?_
      obtain ⟨x, items, n, rfl, f, z⟩ := tup_at X I hu h1
      refine kq ?_
      have hx := I.fz _ _ f
      have e' : kindT σ o = 3 := by
        unfold tupItems at h1
        split at h1 <;> first | rfl | cases h1
      rw [e']
      exact ⟨"tuple", F.plainAttrs_tuple, F.slot_tuple_index, F.type_tuple_index, ⟨_, hx, rfl⟩, fun a q => by cases q; exact ⟨_, hx, rfl⟩⟩
  case append =>
    obtain ⟨i, h1, h2⟩ := bind_of h
    obtain rfl := loc_of h1
    obtain ⟨_, -, h3⟩ := bind_of h2
    obtain ⟨_, -, h4⟩ := bind_of h3
    obtain ⟨b, e, -⟩ := bind_of h4
    rw [show name = Str.ofString "append" from hn]
    have e' : kindT σ (.loc i) = 2 := by rw [hkd]; simp [kindT, barr_of e]
    simp only [kindT] at e'
    split at e' <;> try (exact absurd e' (by decide))
    rename_i vs' e2
    obtain ⟨x, rfl, l⟩ := hu
    obtain ⟨x', l', hx⟩ := I.so _ _ e2
    rw [l] at l'; cases l'
    exact ⟨"bytearray", barr_attrs, barr_slot_append, barr_type_append, ⟨_, hx, rfl⟩, fun a q => by cases q; exact ⟨_, hx, rfl⟩⟩
theorem MOf.get {u : Value} {name : Str} {T id : String} {pl : Sem Bool} {A : Around} {Q : Value × List Value → Shared → Prop} {E : Value → Shared → Prop} (M : MOf s u name T id) (h : Q (.builtin id, [u]) s) : wpAny (model prog w) A (getMethod u name pl) Q E s :=
  getMethod_builtin M.is M.pa M.slot M.ty M.nd h
end
end Mine
end

section
open PySem PySem.W PyProof.Rows
set_option maxRecDepth 100000
namespace Mine
theorem lower_eq {x : List Nat} (h : ascii x = true) : Txt.lower ⟨x.toArray⟩ = ⟨(x.map lowerN).toArray⟩ := by
  rw [lower_ascii (by simpa [ascii] using h)]
  simp only [List.map_toArray]
  rfl
theorem upper_eq {x : List Nat} (h : ascii x = true) : Txt.upper ⟨x.toArray⟩ = ⟨(x.map upperN).toArray⟩ := by
  rw [upper_ascii (by simpa [ascii] using h)]
  simp only [List.map_toArray]
  rfl
theorem split_ne (x y : Str) : Txt.split x y ≠ [] := by
  unfold Txt.split
  split
  · simp
  · split
    · simp
    · simp [Builtin.Str.partsBetween]
theorem split_eq (x : List Nat) (c : Nat) : (Txt.split ⟨x.toArray⟩ ⟨#[c]⟩).map (·.cps.toList) = splitL c x := by
  have h1 := StrLaws.join_split ⟨x.toArray⟩ ⟨#[c]⟩
  have h2 := join_cps c (Txt.split ⟨x.toArray⟩ ⟨#[c]⟩)
  rw [h1] at h2
  have h3 := splitL_join c ((Txt.split ⟨x.toArray⟩ ⟨#[c]⟩).map (·.cps.toList)) (by simpa using split_ne _ _) (by
    intro p hp
    obtain ⟨q, hq, rfl⟩ := List.mem_map.mp hp
    exact StrLaws.split_free _ c q hq)
  rw [← h3, ← h2]
theorem VRs.strs {g : Gh} : ∀ {l : List (Str × Tok)}, VRs g (l.map fun p => AV.str p.1.cps.toList) (strValues l)
  | [] => rfl
  | p :: r => ⟨_, _, rfl, ⟨p.2, by simp⟩, VRs.strs⟩
theorem splits_map {l : List (Str × Tok)} {x : List Nat} {c : Nat} (e : l.map (·.1) = Txt.split ⟨x.toArray⟩ ⟨#[c]⟩) : (l.map fun p => AV.str p.1.cps.toList) = (splitL c x).map .str := by
  rw [← split_eq, ← e]
  simp
section
variable {prog : Program} {w : World} {A : Around} {E : Value → Shared → Prop} {s : Shared}
theorem split_call {x : List Nat} {c : Nat} {t u : Tok} {Q : Value → Shared → Prop} (hz : x.length ≤ 100000)
    (h : ∀ l k, l.map (·.1) = Txt.split ⟨x.toArray⟩ ⟨#[c]⟩ → Q (.ref s.heap.objs.size) { s with heap := s.heap.push (lstObj (strValues l).toArray 0), toks := k }) :
    wpAny (model prog w) A (call (.builtin "str.split") [.str ⟨x.toArray⟩ t, .str ⟨#[c]⟩ u]) Q E s := by
  have hxz : Str.length ⟨x.toArray⟩ ≤ 100000 := by simpa [Str.length] using hz
  have hy : ((⟨#[c]⟩ : Str).length == 0) = false := rfl
  have e1 := StrLaws.occ_length_le ⟨x.toArray⟩ ⟨#[c]⟩ 0 (Str.length ⟨x.toArray⟩) (Str.length ⟨x.toArray⟩ + 1)
  have hn : (Builtin.Str.partsBetween ⟨x.toArray⟩ (Builtin.Str.occurrences ⟨x.toArray⟩ ⟨#[c]⟩ 0 (Str.length ⟨x.toArray⟩) (Str.length ⟨x.toArray⟩ + 1)) (Str.length ⟨#[c]⟩)).length ≤ sizeLine := by
    rw [length_partsBetween, sizeLine_eq]; omega
  have hs : Str.length ⟨x.toArray⟩ ≤ sizeLine := by rw [sizeLine_eq]; omega
  cases h1 : (decide (Str.length ⟨x.toArray⟩ < Str.length ⟨#[c]⟩) || decide (Builtin.Str.strKind ⟨x.toArray⟩ < Builtin.Str.strKind ⟨#[c]⟩))
  · cases hf : (Builtin.Str.occurrences ⟨x.toArray⟩ ⟨#[c]⟩ 0 (Str.length ⟨x.toArray⟩) (Str.length ⟨x.toArray⟩ + 1)).isEmpty
    · refine call_meets F.slot_str_split (typeIs_str _ _ _) F.entry_str_split (F.args_str_split_2 _ _) (meets_str_split_sep _ _ t u h1 hy hf hs hn) ?_
      have := h (numbered s.toks (Builtin.Str.partsBetween ⟨x.toArray⟩ (Builtin.Str.occurrences ⟨x.toArray⟩ ⟨#[c]⟩ 0 (Str.length ⟨x.toArray⟩) (Str.length ⟨x.toArray⟩ + 1)) (Str.length ⟨#[c]⟩)))
        (s.toks + (Builtin.Str.partsBetween ⟨x.toArray⟩ (Builtin.Str.occurrences ⟨x.toArray⟩ ⟨#[c]⟩ 0 (Str.length ⟨x.toArray⟩) (Str.length ⟨x.toArray⟩ + 1)) (Str.length ⟨#[c]⟩)).length)
        ((numbered_texts _ _).trans (by unfold Txt.split; rw [if_neg (ne_true_of_eq_false h1), if_neg (ne_true_of_eq_false hf)]))
      rw [← strsFrom_eq] at this
      exact this
    · exact call_meets F.slot_str_split (typeIs_str _ _ _) F.entry_str_split (F.args_str_split_2 _ _) (meets_str_split_not_found _ _ t u h1 hy hf)
        (h [(_, t)] s.toks (by unfold Txt.split; rw [if_neg (ne_true_of_eq_false h1), if_pos hf]; rfl))
  · exact call_meets F.slot_str_split (typeIs_str _ _ _) F.entry_str_split (F.args_str_split_2 _ _) (meets_str_split_cannot_occur _ _ t u h1)
      (h [(_, t)] s.toks (by unfold Txt.split; rw [if_pos h1]; rfl))
end
end Mine
end

section
open PySem PySem.W PyProof.Rows
set_option maxRecDepth 100000
namespace Mine
open MeetsSeq in
noncomputable def isKey (k : List Nat) : Value → Bool
  | .str x _ => x.cps.toList == k
  | _ => false
theorem eq_isKey (k : List Nat) (t : Tok) {vs : List Value} {l : List Str} (h : StrsAre vs l) : ∀ y ∈ vs, MeetsSeq.EqGives y (.str ⟨k.toArray⟩ t) (isKey k y) := by
  induction h with
  | nil => exact fun y h => absurd h List.not_mem_nil
  | cons x u _ ih =>
    intro y hy
    rcases List.mem_cons.mp hy with rfl | hy
    · exact SeqRoads2.EqGives.str x ⟨k.toArray⟩ u t
    · exact ih y hy
theorem key_at {g : Gh} {k : List Nat} : ∀ {as : List AV} {us : List Value} {l : List (List Nat)} {j : Nat}, strsOf as = some l → VRs g as us → l.findIdx? (· == k) = some j →
    ∃ hj : j < us.length, isKey k us[j] = true ∧ ∀ m (hm : m < us.length), m < j → isKey k us[m] = false := by
  intro as us l j h r e
  have S := strs_are h r
  obtain ⟨h1, h2, h3⟩ := List.findIdx?_eq_some_iff_getElem.mp e
  have key : ∀ {vs : List Value} {l : List (List Nat)}, StrsAre vs (l.map fun x => ⟨x.toArray⟩) → vs.length = l.length ∧ ∀ i (hi : i < vs.length) (hi' : i < l.length), isKey k vs[i] = (l[i] == k) := by
    intro vs l S
    generalize hm : l.map (fun x => (⟨x.toArray⟩ : Str)) = m at S
    induction S generalizing l with
    | nil =>
      have : l = [] := by simpa using hm
      subst this
      exact ⟨rfl, nofun⟩
    | cons x u _ ih =>
      cases l with
      | nil => simp at hm
      | cons y l =>
        simp only [List.map_cons, List.cons.injEq] at hm
        obtain ⟨rfl, hm⟩ := hm
        obtain ⟨h1, h2⟩ := ih hm
        refine ⟨by simp [h1], fun i hi hi' => ?_⟩
        cases i with
        | zero => simp [isKey]
        | succ i => simpa using h2 i (by simpa using hi) (by simpa using hi')
  obtain ⟨e1, e2⟩ := key S
  refine ⟨by first | exact e1.symm ▸ h1 | omega, ?_, fun m hm hlt => ?_⟩
  · rw [e2 j (by first | exact e1.symm ▸ h1 | omega) h1]; exact h2
  · rw [e2 m hm (by first | exact e1 ▸ hm | omega)]
    have := h3 m hlt
    simpa using this

section
variable {prog : Program} {w : World} {A : Around} {E : Value → Shared → Prop} {s : Shared}
theorem tuple_index {a : Addr} {items : Array Value} {n : Nat} {x : Value} {e : Value → Bool} {j : Nat} {Q : Value → Shared → Prop} (ha : s.heap.get? a = some (tupObj items n)) (he : ∀ y ∈ items, MeetsSeq.EqGives y x (e y)) (hj : j < items.size) (hit : e items[j] = true)
    (hno : ∀ m (hm : m < items.size), m < j → e items[m] = false) (h : Q (.int j s.toks) { s with toks := s.toks + 1 }) : wpAny (model prog w) A (call (.builtin "tuple.index") [.ref a, x]) Q E s := by
  have hT : s.TypeIs (.ref a) "tuple" := ⟨_, ha, rfl⟩
  refine wpAny_call (codeAny_call_builtin F.slot_tuple_index.plain F.entry_tuple_index (F.slot_tuple_index.check _ _ _ _ _ _ _ _ hT (F.args_tuple_index_2 _ _) ?_))
  unfold Builtin.«tuple.index»
  refine wpAny_bind (wpAny_of_eq rfl ?_)
  dsimp only
  unfold Builtin.Tuple.tupleItemsOf
  refine wpAny_bind (wpAny_bind (wpAny_seqItems ha rfl (wpAny_pure ?_)))
  refine wpAny_bind (wpAny_pure (wpAny_bind (wpAny_pure ?_)))
  refine wpAny_bind ?_
  rw [Std.Legacy.Range.forIn_eq_forIn_range']
  have hsz : ([0:min items.size items.size] : Std.Legacy.Range).size = items.size := by simp [Std.Legacy.Range.size]
  show wpAny _ _ (forIn (List.range' 0 ([0:min items.size items.size] : Std.Legacy.Range).size 1) _ _) _ _ _
  rw [hsz]
  have key : ∀ k i, j - i = k → i ≤ j → ∀ {R : Option PySem.Fin × Unit → Shared → Prop} {E : Value → Shared → Prop}, R (some (.done (.ret (.int j s.toks))), ()) { s with toks := s.toks + 1 } →
      wpAny (model prog w) A.in1 (forIn (List.range' i (items.size - i) 1) ((none, ()) : Option PySem.Fin × Unit) fun (i : Nat) _ => match items[i]? with
        | some y => do
          if ← eqBool y x then return ForInStep.done (some (← retInt i), ()) else pure (ForInStep.yield (none, ()))
        | x => pure (ForInStep.yield (none, ()))) R E s := by
    intro k
    induction k with
    | zero =>
      intro i hk hi R E hR
      obtain rfl : i = j := Nat.le_antisymm hi (Nat.le_of_sub_eq_zero hk)
      obtain ⟨n', hn'⟩ : ∃ n', items.size - i = n' + 1 := ⟨_, (Nat.succ_pred_eq_of_pos (Nat.sub_pos_of_lt hj)).symm⟩
      rw [hn', List.range'_succ, List.forIn_cons, Array.getElem?_eq_getElem hj]
      refine wpAny_bind (wpAny_bind (he _ (Array.getElem_mem hj) prog w _ _ _ _ ?_))
      rw [hit]
      refine wpAny_bind (wpAny_bind (wpAny_mkInt (wpAny_pure (wpAny_pure (wpAny_pure hR)))))
    | succ k ih =>
      intro i hk hi R E hR
      have hij := Nat.lt_of_sub_eq_succ hk
      have hlt : i < items.size := Nat.lt_trans hij hj
      obtain ⟨n', hn'⟩ : ∃ n', items.size - i = n' + 1 := ⟨_, (Nat.succ_pred_eq_of_pos (Nat.sub_pos_of_lt hlt)).symm⟩
      rw [hn', List.range'_succ, List.forIn_cons, Array.getElem?_eq_getElem hlt]
      refine wpAny_bind (wpAny_bind (he _ (Array.getElem_mem hlt) prog w _ _ _ _ ?_))
      rw [hno i hlt hij]
      refine wpAny_pure ?_
      have := ih (i + 1) (by rw [Nat.sub_add_eq, hk]; rfl) hij (R := R) (E := E) hR
      rw [show items.size - (i + 1) = n' by rw [Nat.sub_add_eq, hn']; rfl] at this
      exact this
  refine key j 0 (Nat.sub_zero j) (Nat.zero_le j) ?_
  exact wpAny_pure h
end
end Mine
end

section
open PySem PySem.W PyProof.Rows
set_option maxRecDepth 100000
namespace Mine
theorem join_one : ∀ l : List (List Nat), Txt.join ⟨#[]⟩ (l.map fun x => ⟨x.toArray⟩) = ⟨l.flatten.toArray⟩ := by
  intro l
  unfold Txt.join Builtin.Str.glued
  have key : ∀ (l : List (List Nat)) (acc : Array Nat), (l.map fun x => (⟨x.toArray⟩ : Str)).foldl (fun acc p => acc ++ (#[] : Array Nat) ++ p.cps) acc = acc ++ l.flatten.toArray := by
    intro l
    induction l with
    | nil => intro acc; simp
    | cons x r ih =>
      intro acc
      simp only [List.map_cons, List.foldl_cons, List.flatten_cons]
      rw [ih]
      simp
  cases l with
  | nil => rfl
  | cons x r =>
    simp only [List.map_cons, List.drop_succ_cons, List.drop_zero, List.headD_cons]
    rw [key]
    simp

section
variable {prog : Program} {w : World} {K : Frag} {p : Program} {loose : List Str} {mean : ExcName → Option Value} {mg mb : Str → Option Value} {g₀ : Heap} {c : Cx} {fr : List Fm} {d : Nat} {m : Lo}
  {σ σ' : List TO} {g : Gh} {mm : Str → Option Value} {s : Shared} {Q : Value → Shared → Prop} {E : Value → Shared → Prop}

theorem key_tests {items : Array Value} {l : List Str} {k : List Nat} {t : Tok} (S : StrsAre items.toList l) : ∀ y ∈ items, MeetsSeq.EqGives y (.str ⟨k.toArray⟩ t) (isKey k y) := fun y hy => eq_isKey k t S y (by simpa using hy)

theorem methCall_ok {k : MK} {o : AV} {as : List AV} {u : Value} {us : List Value} {r : Ex AV} (X : K.In g₀) (hx : methB K σ k o as = some (r, σ')) (hu : VR g o u) (ha : VRs g as us) (st : St g₀ c fr d m σ g mm s.heap) (fin : Fin VR g₀ c fr mm r σ' g s Q E) :
    wpS (model prog w) c.A (call (.builtin (midOf k (kindT σ o))) (u :: us)) Q E s := by
  cases k
  case own => cases hx
  case split =>
    obtain ⟨x, q1, q2⟩ := bind_of hx
    obtain rfl := str_of q1
    obtain ⟨y, q3, q4⟩ := bind_of q2
    obtain rfl := one_of q3
    obtain ⟨z, q5, q6⟩ := bind_of q4
    obtain rfl := str_of q5
    obtain ⟨cc, q7, q8⟩ := bind_of q6
    obtain rfl := one_of q7
    obtain ⟨v, rfl, t', rfl⟩ := ha.one
    obtain ⟨t, rfl⟩ := hu
    split at q8
    · rename_i hl
      simp only [mk, Option.some.injEq, Prod.mk.injEq] at q8
      obtain ⟨rfl, rfl⟩ := q8
      refine wpS.of (split_call hl fun l k e => ?_)
      have kp : ∀ b o', s.heap.get? b = some o' → (s.heap.push (lstObj (strValues l).toArray 0)).get? b = some o' := fun b o e => Heap.get?_push_of_some _ e
      have hT := st.I.track (t := .list ((splitL cc x).map .str)) kp (get_size _) st.I.size_le ⟨(strValues l).toArray, 0, Heap.get?_push_size _ rfl, by
        rw [← splits_map e]
        simpa using VRs.strs⟩
      exact fin.ok _ rfl _ _ _ k hT.1 hT.2 ⟨_, rfl, by simp [Gh.track]⟩
    · cases q8
  case lower =>
    obtain ⟨x, q1, q2⟩ := bind_of hx
    obtain rfl := str_of q1
    split at q2
    case isFalse => cases q2
    rename_i q3
    obtain rfl := List.isEmpty_iff.mp q3
    obtain rfl : us = [] := ha
    obtain ⟨t, rfl⟩ := hu
    split at q2
    · rename_i hl
      obtain ⟨rfl, rfl⟩ := ret_some q2
      refine wpS.of (SC.lower (fit_lower (by simp [Str.length]; omega)) ?_)
      rw [lower_eq hl.1]
      exact fin.pure st ⟨_, rfl⟩
    · cases q2
  case upper =>
    obtain ⟨x, q1, q2⟩ := bind_of hx
    obtain rfl := str_of q1
    split at q2
    case isFalse => cases q2
    rename_i q3
    obtain rfl := List.isEmpty_iff.mp q3
    obtain rfl : us = [] := ha
    obtain ⟨t, rfl⟩ := hu
    split at q2
    · rename_i hl
      obtain ⟨rfl, rfl⟩ := ret_some q2
      refine wpS.of (SC.upper (fit_upper (by simp [Str.length]; omega)) ?_)
      rw [upper_eq hl.1]
      exact fin.pure st ⟨_, rfl⟩
    · cases q2
  case pop =>
    obtain ⟨i, q1, q2⟩ := bind_of hx
    obtain rfl := loc_of q1
    obtain ⟨y, q3, q4⟩ := bind_of q2
    obtain rfl := one_of q3
    obtain ⟨z, q5, q6⟩ := bind_of q4
    obtain rfl := int_of q5
    split at q6
    case isFalse => cases q6
    rename_i q7
    subst q7
    obtain ⟨vs0, q8, q9⟩ := bind_of q6
    obtain ⟨v, qa, qb⟩ := bind_of q9
    obtain ⟨vs, rfl⟩ : ∃ vs, vs0 = v :: vs := by cases vs0 <;> cases qa; exact ⟨_, rfl⟩
    have e := lst_of q8
    rw [List.tail_cons] at qb
    obtain ⟨v', rfl, t', rfl⟩ := ha.one
    obtain ⟨a, rfl, l⟩ := hu
    · split at qb
      · rename_i hl
        obtain ⟨rfl, rfl⟩ := ret_some qb
        obtain ⟨x', l', items, n, hx', z⟩ := st.I.so _ _ e
        rw [l] at l'; cases l'
        obtain ⟨y, ys, e2, z1, z2⟩ := z
        have hs : items.size = ys.length + 1 := by rw [← Array.length_toList, e2]; rfl
        have hy : items[0]? = some y := by rw [← Array.getElem?_toList, e2]; rfl
        have hl' := z2.length
        show wpS _ _ (call (.builtin "list.pop") _) _ _ _
        refine wpS.of (call_meets F.slot_list_pop ⟨_, hx', rfl⟩ F.entry_list_pop (F.args_list_pop_2 _ _) (MeetsSeq.list_pop_at a items n 0 t' 0 y (by decide) (by simp [seqIndex?, hs]) hy (by rw [sizeLine_eq]; omega)) ⟨hx', ?_⟩)
        have hs2 : Heap.SameBut a s.heap (s.heap.update a (Obj.mapSeq fun xs => xs.eraseIdxIfInBounds 0)) := Heap.SameBut.update ..
        have hn2 : (s.heap.update a (Obj.mapSeq fun xs => xs.eraseIdxIfInBounds 0)).get? a = some (Obj.mapSeq (fun xs => xs.eraseIdxIfInBounds 0) (lstObj items n)) := Heap.get?_update_self _ hx' rfl
        have J := st.I.set (t := .list vs) l hs2 ⟨_, _, hn2, ?_⟩
        · exact fin.ok _ rfl y g _ s.toks (Gh.le.refl g) J (z1.mono g.bare_le)
        · have : (items.eraseIdxIfInBounds 0).toList = ys := by
            rw [Array.eraseIdxIfInBounds, dif_pos (by rw [hs]; exact Nat.succ_pos _), Array.toList_eraseIdx, e2]; rfl
          rw [this]; exact z2
      · cases qb
  case index =>
    obtain ⟨y, q3, q4⟩ := bind_of hx
    obtain rfl := one_of q3
    obtain ⟨ks, q5, q6⟩ := bind_of q4
    obtain rfl := str_of q5
    obtain ⟨v, rfl, t', rfl⟩ := ha.one
    split at q6
    · -- a list
     obtain ⟨vs, q7, q8⟩ := bind_of q6
     have e := lst_of q7
     obtain ⟨a, rfl, l⟩ := hu
     split at q8 <;> try (cases q8)
     rename_i hz0
     obtain ⟨v, hv, rfl, rfl⟩ := opt_some q8
     simp only [idx, Option.bind_eq_some_iff, Option.map_eq_some_iff] at hv
     obtain ⟨ls, h1, j, h2, rfl⟩ := hv
     obtain ⟨x', l', items, n, hx', z⟩ := st.I.so _ _ e
     rw [l] at l'; cases l'
     obtain ⟨hj, k1, k2⟩ := key_at h1 z h2
     simp only [kindT, e]
     show wpS _ _ (call (.builtin "list.index") _) _ _ _
     have hjs : j < items.size := by rw [← Array.length_toList]; exact hj
     refine wpS.of (call_meets F.slot_list_index ⟨_, hx', rfl⟩ F.entry_list_index (F.args_list_index_2 _ _) (MeetsSeq.list_index a items n _ (isKey _) (key_tests (strs_are h1 z)) j hjs ?_ (by rwa [Array.getElem_toList] at k1) (fun m hm hlt => by have z := k2 m (by rw [Array.length_toList]; exact hm) hlt; rwa [Array.getElem_toList] at z)) ⟨hx', fin.pure st ⟨_, rfl⟩⟩)
     have hzl := z.length
     omega
    · -- a tuple
     obtain ⟨v, hv, rfl, rfl⟩ := opt_some q6
     simp only [idx, Option.bind_eq_some_iff, Option.map_eq_some_iff] at hv
     obtain ⟨vs, h0, ls, h1, j, h2, rfl⟩ := hv
     obtain ⟨x, items, n, rfl, f, z⟩ := tup_at X st.I hu h0
     have hx' := st.I.fz _ _ f
     have hk : kindT σ' o = 3 := by
       unfold tupItems at h0
       split at h0 <;> first | rfl | cases h0
     rw [hk]
     obtain ⟨hj, k1, k2⟩ := key_at h1 z h2
     have hjs : j < items.size := by rw [← Array.length_toList]; exact hj
     exact wpS.of (tuple_index hx' (key_tests (strs_are h1 z)) hjs (by rwa [Array.getElem_toList] at k1) (fun m hm hlt => by have z := k2 m (by rw [Array.length_toList]; exact hm) hlt; rwa [Array.getElem_toList] at z) (fin.pure st ⟨_, rfl⟩))
  case append =>
    obtain ⟨i, q1, q2⟩ := bind_of hx
    obtain rfl := loc_of q1
    obtain ⟨y, q3, q4⟩ := bind_of q2
    obtain rfl := one_of q3
    obtain ⟨cc, q5, q6⟩ := bind_of q4
    obtain rfl := int_of q5
    obtain ⟨b, q7, q8⟩ := bind_of q6
    have e := barr_of q7
    obtain ⟨v, rfl, t', rfl⟩ := ha.one
    obtain ⟨a, rfl, l⟩ := hu
    · split at q8
      · rename_i hl
        obtain ⟨rfl, rfl⟩ := ret_some q8
        obtain ⟨x', l', hx'⟩ := st.I.so _ _ e
        rw [l] at l'; cases l'
        refine barr_append hx' hl.1 hl.2.1 (by rw [sizeLine_eq, List.size_toArray]; omega) ?_
        have hs2 : Heap.SameBut a s.heap (s.heap.update a (Obj.mapBytearray (·.push cc.toNat.toUInt8))) := Heap.SameBut.update ..
        have hn2 := Heap.get?_update_self (Obj.mapBytearray (·.push cc.toNat.toUInt8)) hx' rfl
        have J := st.I.set (t := .barr (b ++ [UInt8.ofNat cc.toNat])) l hs2 (by
          show Heap.get? _ a = _
          rw [hn2]
          simp [Obj.mapBytearray])
        exact fin.ok _ rfl .none g _ s.toks (Gh.le.refl g) J rfl
      · cases q8
  case join =>
    obtain ⟨x, q1, q2⟩ := bind_of hx
    obtain rfl := str_of q1
    split at q2
    case isFalse => cases q2
    rename_i q3
    obtain rfl := List.isEmpty_iff.mp q3
    obtain ⟨y, q4, q5⟩ := bind_of q2
    obtain rfl := one_of q4
    obtain ⟨i, q6, q7⟩ := bind_of q5
    obtain rfl := loc_of q6
    obtain ⟨vs, q8, q9⟩ := bind_of q7
    have e := lst_of q8
    obtain ⟨v, rfl, a, rfl, l⟩ := ha.one
    obtain ⟨t, rfl⟩ := hu
    · obtain ⟨v, hv, rfl, rfl⟩ := opt_some q9
      unfold joinA at hv
      simp only [Option.bind_eq_some_iff] at hv
      obtain ⟨ls, h1, hv⟩ := hv
      split at hv
      · rename_i hc
        cases hv
        obtain ⟨x', l', items, n, hx', z⟩ := st.I.so _ _ e
        rw [l] at l'; cases l'
        refine wpS.of (join_listW (x := ⟨#[]⟩) (isList_of hx') (strs_are h1 z) (by simp [Str.length]) ?_ fun t' k => fin.pure st ⟨t', ?_⟩)
        · have : ∀ ls : List (List Nat), (∀ x ∈ ls, x.length = 1) → ((ls.map fun x => (⟨x.toArray⟩ : Str)).map (·.length)).sum = ls.length := by
            intro ls
            induction ls with
            | nil => intro _; rfl
            | cons x r ih =>
              intro h
              simp only [List.map_cons, List.sum_cons, ih fun y hy => h y (List.mem_cons_of_mem _ hy), List.length_cons]
              have := h x List.mem_cons_self
              simp only [Str.length, List.size_toArray]
              omega
          rw [this ls (by simpa using hc.1)]
          simp only [List.length_map]
          omega
        · rw [join_one]
      · cases hv
end
end Mine
end

section
open PySem PySem.W PyProof.Rows
set_option maxRecDepth 100000
namespace Mine

section
variable {g₀ : Heap} {g : Gh} {fr : List Fm} {σ : List TO} {h h' : Heap}
theorem Inv.same (I : Inv g₀ g fr σ h) (kz : ∀ b o, g.frz b = some o → h'.get? b = some o) (kf : ∀ p ∈ fr, (∃ o, h.get? p.1 = some o ∧ p.2 o) → ∃ o, h'.get? p.1 = some o ∧ p.2 o)
    (kt : ∀ i a t, σ[i]? = some t → g.loc i = some a → TR g h a t → TR g h' a t) : Inv g₀ g fr σ h' where
  base := I.base
  fz := kz
  fs := fun p hp => ⟨kf p hp (I.fs p hp).1, (I.fs p hp).2⟩
  nd := I.nd
  so := fun i t e => let ⟨a, l, r⟩ := I.so i t e; ⟨a, l, kt i a t e l r⟩
  lo := I.lo
  inj := I.inj

theorem FrIn.fun {envs : List Env} (F : FrIn fr envs) (I : Inv g₀ g fr σ h) : h.FunFrames {} envs := by
  induction envs with
  | nil => trivial
  | cons env rest ih =>
    obtain ⟨hk, L, P, hf, hm, hs⟩ := F env (.head _)
    obtain ⟨o, ho, hP⟩ := (I.fs _ hm).1
    exact ⟨hk, ⟨L, o, hf, by simp [Heap.get?], ho, hs.1 o hP⟩, ih fun env' he => F env' (.tail _ he)⟩

theorem Inv.frame_slots {envs : List Env} (F : FrIn fr envs) (I : Inv g₀ g fr σ h) {p : Fm} (hp : p ∈ fr) (hm : p.1 ∈ envs.filterMap (·.frame)) : Slt p.2 := by
  obtain ⟨env, he, hf⟩ := List.mem_filterMap.mp hm
  obtain ⟨_, L, P, hf', hm', hs⟩ := F env he
  rw [hf] at hf'
  cases hf'
  have : p = (p.1, P) := by
    have nd := I.nd
    clear F I hm he hs hf
    induction fr with
    | nil => cases hp
    | cons q r ih =>
      rw [List.map_cons, List.nodup_cons] at nd
      rcases List.mem_cons.mp hp with rfl | hp <;> rcases List.mem_cons.mp hm' with q' | hm'
      · exact q'.symm
      · exact absurd (List.mem_map.mpr ⟨_, hm', rfl⟩) nd.1
      · exact absurd (List.mem_map.mpr ⟨_, hp, by rw [← q']⟩) nd.1
      · exact ih hp hm' nd.2
  rw [this]; exact hs

structure Chg (S : List Addr) (e : Addr) (T : Option Addr) (h h' : Heap) : Prop where
  keep : ∀ b o, b ≠ e → T ≠ some b → b ∉ S → h.get? b = some o → h'.get? b = some o
  slots : ∀ b o, b ∈ S → h.get? b = some o → ∃ sl, h'.get? b = some { o with slots := sl }
  ex : ∀ o vs, h.get? e = some o → o.data = .fields vs → ∃ vs', h'.get? e = some { o with data := .fields vs' } ∧ vs'[2]? = vs[2]?

theorem Inv.chg {envs : List Env} {e i : Nat} {T : Option Addr} (I : Inv g₀ g fr σ h) (F : FrIn fr envs) (l : g.loc i = some e) (hσ : Rsd σ i) (hT : ∀ b, T = some b → g.frz b = none ∧ ¬ g.mut fr b) (c : Chg (envs.filterMap (·.frame)) e T h h')
    (hx : ∃ o vs, h.get? e = some o ∧ o.data = .fields vs) : Inv g₀ g fr σ h' := by
  have inS : ∀ b, b ∈ envs.filterMap (·.frame) → b ∈ fr.map (·.1) := fun b hb => by
    obtain ⟨env, he, hf⟩ := List.mem_filterMap.mp hb
    obtain ⟨_, L, P, hf', hm', _⟩ := F env he
    rw [hf] at hf'; cases hf'
    exact List.mem_map.mpr ⟨_, hm', rfl⟩
  refine I.same (fun b o z => c.keep b o (fun q => ?_) (fun q => ?_) (fun q => ?_) (I.fz b o z)) (fun p hp ⟨o, ho, hP⟩ => ?_) fun j a t hj la r => ?_
  · rw [q, (I.lo i e l).2.1] at z; cases z
  · rw [(hT b q).1] at z; cases z
  · have := I.mut_none (.inl (inS b q)); rw [this] at z; cases z
  · by_cases hm : p.1 ∈ envs.filterMap (·.frame)
    · obtain ⟨sl, hs⟩ := c.slots _ _ hm ho
      exact ⟨_, hs, (I.frame_slots F hp hm).2 o sl hP⟩
    · refine ⟨o, c.keep _ _ (fun q => ?_) (fun q => (hT _ q).2 (.inl (List.mem_map.mpr ⟨p, hp, rfl⟩))) hm ho, hP⟩
      exact (I.lo i e l).2.2.1 (List.mem_map.mpr ⟨p, hp, q⟩)
  · by_cases hae : a = e
    · subst hae
      obtain ⟨o, vs, ho, hd⟩ := hx
      obtain ⟨vs', hv, h2'⟩ := c.ex o vs ho hd
      obtain ⟨C, k, b, hσ, hb⟩ := hσ
      obtain rfl := I.inj i j a l la
      rw [hj] at hσ; cases hσ
      refine cont fun PP kq => ?_
      obtain ⟨dx, vs2, sl, h1, t1, v1, h2, t2, t2', n, e1, f1, z⟩ := r
      refine kq ?_
      rw [ho] at e1; cases e1
      cases hd
      refine ⟨dx, vs', sl, h1, t1, v1, h2, t2, t2', n, hv, f1, ?_⟩
      cases b with
      | fresh => exact absurd rfl hb
      | bare => exact h2'.trans z
      | any => trivial
    · exact r.mono (Gh.le.refl g) fun o z => c.keep a o hae (fun q => (hT a q).2 (.inr ⟨j, la⟩)) (fun q => (I.lo j a la).2.2.1 (inS a q)) z
end
end Mine
end

section
open PySem PySem.W PyProof.Rows
set_option maxRecDepth 100000
namespace Mine

section
variable {M : Model} {A : Around} {E : Value → Shared → Prop} {s : Shared} {g₀ : Heap} {g : Gh} {fr : List Fm} {σ : List TO}

theorem entry_ok {env : Env} {outer : List Env} {L e i : Addr} {oe : Obj} {vs : Array Value} {head : Value} {hadNext : Bool} {Q : Unit → Shared → Prop}
    (hfr : A.frames = some (env :: outer)) (hf : env.frame = some L) (F : FrIn fr (env :: outer)) (I : Inv g₀ g fr σ s.heap) (l : g.loc i = some e) (hσ : Rsd σ i)
    (he : s.heap.get? e = some oe) (hd : oe.data = .fields vs) (hz : vs.size = 6)
    (q : ∀ h', Inv g₀ g fr σ h' → ExTr g fr h' e (rawInt L) → Q () { s with heap := h' }) :
    wpAny M A (do let a ← frameOf env; let pl ← entryPlaceOf L hadNext; let b ← EntryCells.newEntry head a .none (rawInt L) .none pl; setField (.ref e) 1 b) Q E s := by
  have hl := F.fun I
  have heS : e ∉ (env :: outer).filterMap (·.frame) := fun hm => by
    obtain ⟨env', he', hf'⟩ := List.mem_filterMap.mp hm
    obtain ⟨_, L', P, hf2, hm', _⟩ := F env' he'
    rw [hf'] at hf2; cases hf2
    exact (I.lo i e l).2.2.1 (List.mem_map.mpr ⟨_, hm', rfl⟩)
  refine wpAny_bind (wpAny_frameOf_fun hfr hl hf fun h₁ hs₁ => ?_)
  refine wpAny_bind (wpAny_entryPlaceOf fun pl hpl => ?_)
  unfold EntryCells.newEntry newFields
  refine wpAny_bind (wpAny_newObj_type ?_ (hpl.sizeOk5 _ _ _ _ _))
  have he₁ : h₁.get? e = some oe := (hs₁.2.1 e heS).trans he
  have he₂ := Heap.get?_push_of_some (h := h₁) { cls := .type "traceback", dict := none, data := .fields ([head, .ref L, .none, rawInt L, .none] ++ (if pl.isEmpty then List.replicate 6 Value.none else pl)).toArray } he₁
  refine wpAny_setField he₂ hd (by omega) ?_
  have hTe : h₁.objs.size ≠ e := Nat.ne_of_gt (Heap.lt_size he₁)
  have hd₃ := Obj.data_mapFields hd (·.setIfInBounds 1 (Value.ref h₁.objs.size))
  have he₃ := Heap.get?_update_self (Obj.mapFields (·.setIfInBounds 1 (Value.ref h₁.objs.size))) he₂ (Obj.isFreed_of_fields hd₃)
  have hT₃ := (Heap.get?_update_other (h₁.push { cls := .type "traceback", dict := none, data := .fields ([head, .ref L, .none, rawInt L, .none] ++ (if pl.isEmpty then List.replicate 6 Value.none else pl)).toArray })
    (Obj.mapFields (·.setIfInBounds 1 (Value.ref h₁.objs.size))) (Ne.symm hTe)).trans (Heap.get?_push_size h₁ rfl)
  have hmap : Obj.mapFields (·.setIfInBounds 1 (Value.ref h₁.objs.size)) oe = { oe with data := .fields (vs.setIfInBounds 1 (Value.ref h₁.objs.size)) } := by
    obtain ⟨c, dd, dt, sl⟩ := oe
    have hd' : dt = .fields vs := hd
    subst hd'
    rfl
  have c : Chg ((env :: outer).filterMap (·.frame)) e none s.heap ((h₁.push { cls := .type "traceback", dict := none, data := .fields ([head, .ref L, .none, rawInt L, .none] ++ (if pl.isEmpty then List.replicate 6 Value.none else pl)).toArray }).update e (Obj.mapFields (·.setIfInBounds 1 (Value.ref h₁.objs.size)))) := by
    refine ⟨fun b o h1 _ h3 z => ?_, fun b o hb z => ?_, fun o vs' z hd' => ?_⟩
    · rw [Heap.get?_update_other _ _ (Ne.symm h1)]
      exact Heap.get?_push_of_some _ ((hs₁.2.1 b h3).trans z)
    · obtain ⟨sl, z1⟩ := hs₁.2.2 b o z
      have hbe : b ≠ e := fun q => heS (q ▸ hb)
      exact ⟨sl, by rw [Heap.get?_update_other _ _ (Ne.symm hbe)]; exact Heap.get?_push_of_some _ z1⟩
    · rw [he] at z; cases z
      rw [hd] at hd'; cases hd'
      exact ⟨vs.setIfInBounds 1 (Value.ref h₁.objs.size), he₃.trans (by rw [hmap]), by simp⟩
  have J := I.chg F l hσ (fun b hb => by cases hb) c ⟨oe, vs, he, hd⟩
  have hnew : s.heap.get? h₁.objs.size = none := by
    cases z : s.heap.get? h₁.objs.size with
    | none => rfl
    | some o => have := Heap.lt_size z; rw [hs₁.1] at this; exact absurd this (Nat.lt_irrefl _)
  refine q _ J ⟨_, _, h₁.objs.size, _, _, he₃, hd₃, ?_, ?_, ?_, fun m => ?_, hT₃, rfl, ?_⟩
  · simp [hz]
  · simp [hz]
  · cases z : g.frz h₁.objs.size with
    | none => rfl
    | some o => rw [I.fz _ _ z] at hnew; cases hnew
  · obtain ⟨o, z⟩ := I.mut_here m
    rw [z] at hnew; cases hnew
  · simp

theorem note_ok {env : Env} {outer : List Env} {L e i : Addr} {Q : Unit → Shared → Prop} (hfr : A.frames = some (env :: outer)) (hf : env.frame = some L) (F : FrIn fr (env :: outer)) (I : Inv g₀ g fr σ s.heap) (l : g.loc i = some e) (hσ : Rsd σ i)
    (hx : ExSt g fr L s.heap e) (q : ∀ h', Inv g₀ g fr σ h' → ExTr g fr h' e (rawInt L) → Q () { s with heap := h' }) : wpAny M A (noteFrame (.ref e) env) Q E s := by
  unfold noteFrame
  simp only [hf]
  rcases hx with ⟨oe, vs, he, hd, hz, h1⟩ | ⟨oe, vs, T, oT, ts, he, hd, hz, h1, hg, hm, hT, hdT, h3⟩ | ⟨oe, vs, T, oT, ts, he, hd, hz, h1, hg, hm, hT, hdT, h3⟩
  · refine wpAny_bind (wpAny_field he hd h1 ?_)
    rw [if_neg (by decide)]
    exact entry_ok hfr hf F I l hσ he hd hz q
  · refine wpAny_bind (wpAny_field he hd h1 ?_)
    rw [if_pos (show (Value.ref T != Value.none) = true from by simp)]
    refine wpAny_bind (wpAny_field hT hdT h3 ?_)
    rw [if_neg (show ¬ ((Value.none == rawInt L) = true) from by simp [rawInt])]
    refine wpAny_bind (wpAny_setField hT hdT (Array.getElem?_eq_some_iff.mp h3).1 ?_)
    have hTe : T ≠ e := fun z => hm (z ▸ .inr ⟨i, l⟩)
    have c : Chg ((env :: outer).filterMap (·.frame)) e (some T) s.heap (s.heap.update T (Obj.mapFields (·.setIfInBounds 3 Value.none))) := by
      refine ⟨fun b o _ h2 _ z => ?_, fun b o hb z => ?_, fun o vs' z hd' => ?_⟩
      · rw [Heap.get?_update_other _ _ (fun q => h2 (by rw [q]))]; exact z
      · have : T ≠ b := fun q => hm (.inl (by
          obtain ⟨env', he', hf'⟩ := List.mem_filterMap.mp hb
          obtain ⟨_, L', P, hf2, hm', _⟩ := F env' he'
          rw [hf'] at hf2; cases hf2
          exact q ▸ List.mem_map.mpr ⟨_, hm', rfl⟩))
        exact ⟨o.slots, by rw [Heap.get?_update_other _ _ this]; exact z⟩
      · refine ⟨vs', ?_, rfl⟩
        rw [Heap.get?_update_other _ _ hTe, z, ← hd']
    have J := I.chg F l hσ (fun b hb => by cases hb; exact ⟨hg, hm⟩) c ⟨oe, vs, he, hd⟩
    exact entry_ok (s := { s with heap := s.heap.update T (Obj.mapFields (·.setIfInBounds 3 Value.none)) }) hfr hf F J l hσ ((Heap.get?_update_other _ _ hTe).trans he) hd hz q
  · refine wpAny_bind (wpAny_field he hd h1 ?_)
    rw [if_pos (show (Value.ref T != Value.none) = true from by simp)]
    refine wpAny_bind (wpAny_field hT hdT h3 ?_)
    rw [if_pos (show (rawInt L == rawInt L) = true from by simp)]
    exact wpAny_pure (q s.heap I ⟨oe, vs, T, oT, ts, he, hd, hz, h1, hg, hm, hT, hdT, h3⟩)

theorem flight_ok {fl : Value} {to : Option Addr} {e i : Addr} {envs : List Env} {Q : Unit → Shared → Prop} (F : FrIn fr envs) (I : Inv g₀ g fr σ s.heap) (l : g.loc i = some e) (hσ : Rsd σ i) (hx : ExTr g fr s.heap e fl)
    (q : ∀ h', Inv g₀ g fr σ h' → ExTr g fr h' e (to.elim .none fun f => rawInt f) → Q () { s with heap := h' }) : wpAny M A (setFlight (.ref e) to) Q E s := by
  refine cont fun PP kq => ?_
  obtain ⟨oe, vs, T, oT, ts, he, hd, hz, h1, hg, hm, hT, hdT, h3⟩ := hx
  refine kq ?_
  have hsz3 : 3 < ts.size := (Array.getElem?_eq_some_iff.mp h3).1
  have hTe : T ≠ e := fun z => hm (z ▸ .inr ⟨i, l⟩)
  unfold setFlight
  refine wpAny_bind (wpAny_field he hd h1 ?_)
  rw [if_pos (show (Value.ref T != Value.none) = true from by simp)]
  refine wpAny_setField hT hdT hsz3 ?_
  have c : Chg (envs.filterMap (·.frame)) e (some T) s.heap (s.heap.update T (Obj.mapFields (·.setIfInBounds 3 (to.elim Value.none fun f => rawInt f)))) := by
    refine ⟨fun b o _ h2 _ z => ?_, fun b o hb z => ?_, fun o vs' z hd' => ?_⟩
    · rw [Heap.get?_update_other _ _ (fun q => h2 (by rw [q]))]; exact z
    · have : T ≠ b := fun q => hm (.inl (by
        obtain ⟨env', he', hf'⟩ := List.mem_filterMap.mp hb
        obtain ⟨_, L', P, hf2, hm', _⟩ := F env' he'
        rw [hf'] at hf2; cases hf2
        exact q ▸ List.mem_map.mpr ⟨_, hm', rfl⟩))
      exact ⟨o.slots, by rw [Heap.get?_update_other _ _ this]; exact z⟩
    · refine ⟨vs', ?_, rfl⟩
      rw [Heap.get?_update_other _ _ hTe, z, ← hd']
  have J := I.chg F l hσ (fun b hb => by cases hb; exact ⟨hg, hm⟩) c ⟨oe, vs, he, hd⟩
  exact q _ J ⟨oe, vs, T, _, _, (Heap.get?_update_other _ _ hTe).trans he, hd, hz, h1, hg, hm, Heap.get?_update_self _ hT (Obj.isFreed_of_fields (Obj.data_mapFields hdT _)), Obj.data_mapFields hdT _, by simp [hsz3]⟩

theorem leaving_ok {env : Env} {outer : List Env} {L e i : Addr} {Q : Unit → Shared → Prop} (hfr : A.frames = some (env :: outer)) (hf : env.frame = some L) (F : FrIn fr (env :: outer)) (I : Inv g₀ g fr σ s.heap) (l : g.loc i = some e) (hσ : Rsd σ i)
    (hx : ExSt g fr L s.heap e) (q : ∀ h', Inv g₀ g fr σ h' → ExTr g fr h' e .none → Q () { s with heap := h' }) : wpAny M A (leaving env (.ref e)) Q E s := by
  unfold leaving
  refine wpAny_bind (note_ok hfr hf F I l hσ hx fun h' I' t => ?_)
  exact flight_ok (s := { s with heap := h' }) (to := none) F I' l hσ t q
end
end Mine
end

section
open PySem PySem.W PyProof.Rows
set_option maxRecDepth 100000
namespace Mine
theorem lookup_zip_some : ∀ {ns : List Str} {us : List Value} {n : Str}, n ∈ ns → us.length = ns.length → ((ns.zip us).lookup n).isSome = true
  | [], _, _, h, _ => nomatch h
  | m :: ns, [], _, _, e => by simp at e
  | m :: ns, u :: us, n, h, e => by
    simp only [List.zip_cons_cons, List.lookup_cons]
    cases hb : n == m with
    | true => rfl
    | false =>
      have : n ≠ m := by simpa using hb
      exact lookup_zip_some (by simpa [this] using h) (by simpa using e)

theorem filter_zip : ∀ {ns : List Str} {us : List Value}, ns.Nodup → us.length = ns.length → ns.filterMap (fun n => Option.map (fun x => (n, x)) (List.lookup n (ns.zip us))) = ns.zip us
  | [], us, _, _ => by simp
  | m :: ns, [], _, e => by simp at e
  | m :: ns, u :: us, nd, e => by
    rw [List.nodup_cons] at nd
    simp only [List.zip_cons_cons, List.filterMap_cons, List.lookup_cons, beq_self_eq_true, Option.map_some]
    congr 1
    have key : ∀ l : List Str, m ∉ l → l.filterMap (fun n => Option.map (fun x => (n, x)) (match n == m with | true => some u | false => List.lookup n (ns.zip us))) = l.filterMap (fun n => Option.map (fun x => (n, x)) (List.lookup n (ns.zip us))) := by
      intro l
      induction l with
      | nil => intro _; rfl
      | cons k l ih =>
        intro hm
        have : (k == m) = false := beq_eq_false_iff_ne.mpr fun q => hm (by rw [q]; exact List.mem_cons_self)
        rw [List.filterMap_cons, List.filterMap_cons, ih fun q => hm (List.mem_cons_of_mem _ q), this]
    exact (key ns nd.1).trans (filter_zip nd.2 (by simpa using e))
theorem bind_plain {fd : FuncData} {us : List Value} (h1 : fd.params.posonlyargs = []) (h2 : fd.params.kwonlyargs = []) (h3 : fd.params.vararg = none) (h4 : fd.params.kwarg = none) (hd : fd.defaults = .none) (hl : us.length = fd.params.args.length) (hn : (fd.params.args.map (·.arg)).Nodup) :
    bindArgs fd ⟨us, []⟩ = pure ((fd.params.args.map (·.arg)).zip us) := by
  obtain ⟨n1, n2, ⟨po, ar, va, ko, kd, kg, df⟩, n4, n5, n6, n7, dv, n9, n10, n11, n12, n13, n14, n15⟩ := fd
  dsimp only at h1 h2 h3 h4 hd hl hn
  subst h1 h2 h3 h4 hd
  have hm : (!((((ar.map (·.arg)).take (ar.map (·.arg)).length).filter fun n => (((ar.map (·.arg)).zip us).lookup n).isNone).isEmpty)) = true → False := by
    rw [List.filter_eq_nil_iff.mpr fun n hn => ?_]
    · exact Bool.noConfusion
    rw [List.take_length] at hn
    have := lookup_zip_some hn (by simpa using hl)
    simp only [Option.isNone_iff_eq_none]
    intro e
    rw [e] at this; cases this
  have hg : ¬ (decide (us.length > (ar.map (·.arg)).length) && (none : Option Arg).isNone) = true := by simp [hl]
  refine (if_neg hg).trans ?_
  dsimp only [List.map_nil, List.nil_append, Option.getD_none]
  simp only [List.drop_nil, List.length_nil, Nat.sub_zero]
  refine (if_neg hm).trans ?_
  rw [List.zip_nil_right]
  show (pure (List.filterMap (fun n => Option.map (fun x => (n, x)) (List.lookup n ((ar.map (·.arg)).zip us))) (ar.map (·.arg) ++ [])) : Sem _) = _
  rw [List.append_nil, filter_zip hn (by simpa using hl)]

noncomputable def flowV : Flow → Value
  | .ret v => v
  | _ => .none

structure FinS (g₀ : Heap) (c : Cx) (fr : List Fm) (r : Out × Lo × List TO) (g : Gh) (s : Shared) (Q : Flow → Shared → Prop) (E : Value → Shared → Prop) : Prop where
  nxt : ∀ m' σ', r = (.nxt, m', σ') → ∀ mm' g' h' tk, g.le g' → Inv g₀ g' ((c.L, frmP mm') :: fr) σ' h' → MR g' c.locs m' mm' → Q .next { s with heap := h', toks := tk }
  ret : ∀ v m' σ', r = (.ret v, m', σ') → ∀ mm' u g' h' tk, g.le g' → Inv g₀ g' ((c.L, frmP mm') :: fr) σ' h' → VR g' v u → Q (.ret u) { s with heap := h', toks := tk }
  ex : ∀ i m' σ', r = (.exc i, m', σ') → ∀ mm' e g' h' tk, g.le g' → Inv g₀ g' ((c.L, frmP mm') :: fr) σ' h' → MR g' c.locs m' mm' → g'.loc i = some e → Rsd σ' i → ExSt g' ((c.L, frmP mm') :: fr) c.Lf h' e → E (.ref e) { s with heap := h', toks := tk }

noncomputable def SubS (prog : Program) (w : World) (g₀ : Heap) (c : Cx) (fr : List Fm) (d : Nat) (t : Sem Flow) (x : Lo → List TO → RS) : Prop :=
  ∀ {m σ r g mm s Q E}, x m σ = some r → St g₀ c fr d m σ g mm s.heap → FinS g₀ c fr r g s Q E → wpS (model prog w) c.A t Q E s

section
variable {prog : Program} {w : World} {A : Around} {E : Value → Shared → Prop} {R : Result → Shared → Prop} {s : Shared}

theorem codeS_func {body : List Stmt} {env : Env}
    (h : wpS (model prog w) (A.deeper env) (execs body env) (fun f s' => R (.ok (.ret (flowV f))) s') (fun e s' => wpS (model prog w) (A.deeper env) (leaving env e) (fun _ s'' => R (.error e) s'') (fun e' s'' => R (.error e') s'') s') s) :
    codeS (model prog w) A (.func body env) R s := by
  refine codeS_of_tree rfl ?_
  show wpS _ (A.deeper env) (do point; match ← (execs body env).onRaise (leaving env) with | .ret v => PySem.ret v | _ => PySem.ret .none) _ _ s
  refine wpS_bind (wpS_point (wpS_bind (wpS_onRaise (wpS_mono h (fun f s' h' => ?_) fun _ _ h' => h'))))
  cases f <;> exact wpS_pure h'

theorem codeS_def {a : Addr} {us : List Value} {o : Obj} {fd : FuncData} {body : List Stmt} {binds : List (Str × Value)} (hroom : A.depth < recursionLimit) (ho : s.heap.get? a = some o) (hd : o.data = .func fd) (hlim : s.heap.NoLimit)
    (hcd : s.heap.CodeRec fd.code fd.qualname) (hbody : fd.body = .stmts body) (hbind : bindArgs fd ⟨us, []⟩ = pure binds) (hcell : ∀ x ∈ fd.scope.names, x.2 ≠ .cell) (hloc : ∀ x ∈ binds, fd.scope.names.lookup x.1 = some .local)
    (hco : fd.scope.isCoroutine = false) (hgen : fd.scope.isGenerator = false) (hk : fd.scope.kind = .function)
    (h : ∀ h₀, h₀.Ns s.heap.objs.size (fun x => binds.reverse.lookup x) → (∀ b o, s.heap.get? b = some o → h₀.get? b = some o) →
      wpS (model prog w) (A.deeper (callEnv fd s.heap.objs.size a)) (execs body (callEnv fd s.heap.objs.size a)) (fun f s' => R (.ok (.ret (flowV f))) s')
        (fun e s' => wpS (model prog w) (A.deeper (callEnv fd s.heap.objs.size a)) (leaving (callEnv fd s.heap.objs.size a) e) (fun _ s'' => R (.error e) s'') (fun e' s'' => R (.error e') s'') s') { s with heap := h₀, toks := s.toks + binds.length }) :
    codeS (model prog w) A (.call (.ref a) ⟨us, []⟩) R s := by
  refine codeS_of_tree rfl ?_
  show wpS _ A.in1 (callAny (.ref a) ⟨us, []⟩) _ _ s
  simp only [callAny]
  refine wpS_bind (wpS_load ho ?_)
  obtain ⟨cc, oc, vs, tq, hc, hoc, hdc, hq⟩ := hcd
  simp only [hd, callFunction, hco, hgen, hbody, hc]
  refine wpS_bind (m := field (.ref cc) 1) (wpS.of (wpAny_field hoc hdc hq (wpS_bind (wpS_pure ?_))))
  rw [hbind]
  refine wpS_bind (wpS_pure (wpS_bind (wpS.of (wpAny_newFunctionEnv hcell hloc (fun h₀ hns hsb => ?_) hk))))
  have kp : ∀ b o, s.heap.get? b = some o → h₀.get? b = some o := fun b o e => hsb.extBut b o (Nat.ne_of_lt (Heap.lt_size e)) (Heap.get?_push_of_some _ e)
  refine wpS_bind (wpS.of (wpAny_enterFrame (hlim.fresh _ hsb) hroom (wpS_pure ⟨rfl, codeS_func ?_⟩)))
  have := h h₀ hns kp
  rw [callEnv, hc] at this
  exact this
end
end Mine
end

section
open PySem PySem.W PyProof.Rows
set_option maxRecDepth 100000
namespace Mine

theorem lookup_of_mem : ∀ {l : List (Str × Value)} {x : Str} {u : Value}, (l.map (·.1)).Nodup → (x, u) ∈ l → l.lookup x = some u
  | [], _, _, _, h => nomatch h
  | (y, v) :: l, x, u, nd, h => by
    rw [List.map_cons, List.nodup_cons] at nd
    rw [List.lookup_cons]
    rcases List.mem_cons.mp h with q | h
    · cases q; simp
    · have : (x == y) = false := beq_eq_false_iff_ne.mpr fun q => nd.1 (q ▸ List.mem_map.mpr ⟨_, h, rfl⟩)
      rw [this]
      exact lookup_of_mem nd.2 h
theorem zip_lookup {ns : List Str} {us : List Value} {i : Nat} {x : Str} {u : Value} (nd : ns.Nodup) (hl : us.length = ns.length) (hx : ns[i]? = some x) (hu : us[i]? = some u) : (ns.zip us).reverse.lookup x = some u := by
  have hk : (ns.zip us).map (·.1) = ns := by rw [List.map_fst_zip]; omega
  refine lookup_of_mem ?_ (List.mem_reverse.mpr (List.mem_of_getElem? (i := i) ?_))
  · rw [List.map_reverse, hk]; unfold List.Nodup; rw [List.pairwise_reverse]; exact nd.imp fun h => Ne.symm h
  · rw [List.getElem?_zip_eq_some]; exact ⟨hx, hu⟩

structure FdOk (K : Frag) (fd : FuncData) : Prop where
  p1 : fd.params.posonlyargs = []
  p2 : fd.params.kwonlyargs = []
  p3 : fd.params.vararg = none
  p4 : fd.params.kwarg = none
  names : (fd.scope.names.map (·.1)).take fd.params.args.length = fd.params.args.map (·.arg)
  nd : (fd.scope.names.map (·.1)).Nodup
  co : fd.scope.isCoroutine = false
  gen : fd.scope.isGenerator = false
  kind : fd.scope.kind = .function
  cell : ∀ x ∈ fd.scope.names, x.2 ≠ .cell
  loc : ∀ a ∈ fd.params.args, fd.scope.names.lookup a.arg = some .local
  code : codeIn K fd.code fd.qualname = true
  glob : fd.globals = mainGlobals
  blt : fd.builtins = builtinsNs
  dfl : fd.defaults = .none
theorem okF_ok {K : Frag} {fd : FuncData} (h : okF K fd = true) : FdOk K fd := by
  unfold okF paramsPlain at h
  simp only [Bool.and_eq_true, List.isEmpty_iff, Option.isNone_iff_eq_none, beq_iff_eq, Bool.not_eq_true', decide_eq_true_eq, List.all_eq_true, bne_iff_ne, ne_eq] at h
  refine cont fun PP kq => ?_
  obtain ⟨⟨⟨⟨⟨⟨⟨⟨⟨⟨⟨⟨⟨⟨⟨p1, p3⟩, p2⟩, p4⟩, nm⟩, nd⟩, co⟩, gen⟩, kind⟩, cell⟩, loc⟩, code⟩, glob⟩, clo⟩, blt⟩, dfl⟩ := h
  refine kq ?_
  exact ⟨p1, p2, p3, p4, nm, nd, co, gen, kind, cell, loc, code, glob, blt, by split at dfl <;> first | assumption | cases dfl⟩

section
variable {prog : Program} {w : World} {K : Frag} {p : Program} {loose : List Str} {mean : ExcName → Option Value} {mg mb : Str → Option Value} {g₀ : Heap} {c : Cx} {fr : List Fm} {d : Nat} {m : Lo}
  {σ σ' : List TO} {g : Gh} {mm : Str → Option Value} {s : Shared} {Q : Value → Shared → Prop} {E : Value → Shared → Prop}

noncomputable abbrev callCx (A : Around) (fd : FuncData) (L a : Addr) : Cx := ⟨A.deeper (callEnv fd L a), callEnv fd L a, L, L, fd.scope.names.map (·.1), fd.scope⟩

theorem callCx_ok {A : Around} {fd : FuncData} {L a : Addr} (F : FdOk K fd) (hh : A.handled = none) : CxOk (callCx A fd L a) where
  hk := F.kind
  names := rfl
  loc := rfl
  glob := F.glob
  blt := F.blt
  frame := rfl
  nd := F.nd
  hh := hh

theorem Inv.len_le {g₁ : Gh} {σ₁ : List TO} {h h₁ : Heap} {fr₁ : List Fm} (I : Inv g₀ g₁ fr₁ σ₁ h₁) (I' : Inv g₀ g fr σ h) (le : g₁.le g) : σ₁.length ≤ σ.length := by
  rcases Nat.lt_or_ge σ.length σ₁.length with z | z
  · obtain ⟨a, l, _⟩ := I.so σ.length _ (List.getElem?_eq_getElem z)
    exact absurd (I'.lo _ a (le.2 _ _ l)).1 (Nat.lt_irrefl _)
  · exact z

theorem ExTr.drop {q : Fm} {h : Heap} {e : Addr} {fl : Value} (x : ExTr g (q :: fr) h e fl) : ExTr g fr h e fl := by
  refine cont fun PP kq => ?_
  obtain ⟨oe, vs, T, oT, ts, h1, h2, h3, h4, h5, h6, r⟩ := x
  refine kq ?_
  refine ⟨oe, vs, T, oT, ts, h1, h2, h3, h4, h5, fun m => h6 ?_, r⟩
  rcases m with m | m
  · exact .inl (by rw [List.map_cons]; exact List.mem_cons_of_mem _ m)
  · exact .inr m

theorem fn_ok {FT : Addr → Option Fn} (hFT : ∀ a f, FT a = some f → CF K a f) {n : Nat} {a : Addr} {as : List AV} {us : List Value} {r : Ex AV} (O : TopOk K p loose mean mg mb g₀) (C : CxOk c)
    (body : ∀ (c' : Cx) (fr' : List Fm), CxOk c' → (∃ outer, c'.A.frames = some (c'.env :: outer)) → ∀ bd ib, CSs K c'.locs c'.sc bd ib → SubS prog w g₀ c' fr' d (execs bd c'.env) (fun m σ => evSs K FT n d ib m σ))
    (hx : evFn K FT (n + 1) (d + 1) a as σ = some (r, σ')) (ha : VRs g as us) (st : St g₀ c fr (d + 1) m σ g mm s.heap) (fin : Fin VR g₀ c fr mm r σ' g s Q E) :
    (∃ k, Looks (model prog w) s.heap (keeperOf (.ref a)) k) ∧ wpS (model prog w) c.A (call (.ref a) us) Q E s := by
  rw [evFn_s] at hx
  split at hx
  · rename_i np nl ib hF
    split at hx
    · rename_i hnp
      refine cont fun PP kq => ?_
      obtain ⟨⟨oc, od, fd, sl, bd, hl, hb, ok, hcs, e1, e2⟩⟩ := hFT _ _ hF
      refine kq ?_
      dsimp only at e1 e2 hcs
      subst e1 e2
      have F := okF_ok ok
      have ho : s.heap.get? a = some ⟨oc, od, .func fd, sl⟩ := st.I.fz _ _ (st.I.base _ _ (O.X _ _ hl))
      have kpg : ∀ b o, g₀.get? b = some o → s.heap.get? b = some o := fun b o e => st.I.fz _ _ (st.I.base _ _ e)
      refine ⟨⟨.frame, (Looks.ld (part := none) ho).andThen .now⟩, ?_⟩
      have hul : us.length = fd.params.args.length := ha.length.trans hnp.1
      have ndA : (fd.params.args.map (·.arg)).Nodup := by rw [← F.names]; exact F.nd.sublist (List.take_sublist _ _)
      have hbind := bind_plain F.p1 F.p2 F.p3 F.p4 F.dfl hul ndA
      have hR := st.R
      refine wpS_call (codeS_def (Nat.lt_of_succ_lt (room_e hR.1)) ho rfl (O.T.nolimit.keeps kpg) ((codeRec_of O.X F.code).keeps kpg) hb hbind F.cell (fun x hx => ?_) F.co F.gen F.kind fun h₀ hns kp => ?_)
      · obtain ⟨i, hi⟩ := List.mem_iff_getElem?.mp hx
        rw [List.getElem?_zip_eq_some] at hi
        obtain ⟨y, hy, e⟩ := List.mem_map.mp (List.mem_of_getElem? hi.1)
        rw [← e]; exact F.loc y hy
      · -- within
        have I0 : Inv g₀ g ((s.heap.objs.size, frmP fun x => ((fd.params.args.map (·.arg)).zip us).reverse.lookup x) :: (c.L, frmP mm) :: fr) σ h₀ := st.I.push kp (get_size _) st.I.size_le (frmP.of hns)
        obtain ⟨envs, hfr, hFr⟩ := st.F
        have hfr' : (callCx c.A fd s.heap.objs.size a).A.frames = some (callEnv fd s.heap.objs.size a :: envs) := by
          show c.A.frames.map _ = _
          rw [hfr]; rfl
        have FrN : ∀ mm', FrIn ((s.heap.objs.size, frmP mm') :: (c.L, frmP mm) :: fr) (callEnv fd s.heap.objs.size a :: envs) := fun mm' env he => by
          rcases List.mem_cons.mp he with rfl | he
          · exact ⟨by show fd.scope.kind ≠ _; rw [F.kind]; decide, _, _, rfl, .head _, Slt.frm _⟩
          · exact hFr.more env he
        have st0 : St g₀ (callCx c.A fd s.heap.objs.size a) ((c.L, frmP mm) :: fr) d (as.map some ++ List.replicate (fd.scope.names.length - fd.params.args.length) none) σ g (fun x => ((fd.params.args.map (·.arg)).zip us).reverse.lookup x) h₀ := by
          refine ⟨I0, fun i x v hi hv => ?_, ⟨_, hfr', FrN _⟩, ?_⟩
          · have hlt : i < as.length := by
              rcases Nat.lt_or_ge i as.length with z | z
              · exact z
              · rw [List.getElem?_append_right (by simpa using z), List.getElem?_replicate] at hv
                split at hv <;> cases hv
            rw [List.getElem?_append_left (by simpa using hlt), List.getElem?_map] at hv
            simp only [Option.map_eq_some_iff] at hv
            obtain ⟨v', hv', e⟩ := hv
            cases e
            obtain ⟨u, hu, hr⟩ := ha.get hv'
            have hi' : (fd.params.args.map (·.arg))[i]? = some x := by
              rw [← F.names, List.getElem?_take, if_pos (by omega)]
              exact hi
            exact ⟨u, zip_lookup ndA (by simpa using hul) hi' hu, hr⟩
          · have h1 := hR.1
            have h2 := hR.2
            refine ⟨?_, ?_⟩
            · exact room_b h1
            · exact room_c h2
        have sub : SubS prog w g₀ (callCx c.A fd s.heap.objs.size a) ((c.L, frmP mm) :: fr) d (execs bd (callEnv fd s.heap.objs.size a)) (fun m σ => evSs K FT n d ib m σ) := @body (callCx c.A fd s.heap.objs.size a) ((c.L, frmP mm) :: fr) (callCx_ok F C.hh) ⟨envs, hfr'⟩ bd ib hcs
        -- what is wanted behind the body
        split at hx
        · rename_i _ m₁ σ₁ e1
          simp only [Option.some.injEq, Prod.mk.injEq] at hx
          obtain ⟨rfl, rfl⟩ := hx
          refine sub e1 st0 ⟨fun m' σ' q mm' g' h' tk le I' M' => ?_, fun _ _ _ q => (nomatch q), fun _ _ _ q => (nomatch q)⟩
          cases q
          obtain ⟨le2, I2⟩ := I'.pop st.I le (st.I.len_le I' le)
          exact fin.ok _ rfl .none _ _ tk le2 I2 rfl
        · rename_i v m₁ σ₁ e1
          refine sub e1 st0 ⟨fun _ _ q => (nomatch q), fun v' m' σ' q mm' u g' h' tk le I' hu => ?_, fun _ _ _ q => (nomatch q)⟩
          cases q
          split at hx
          · rename_i hfree
            simp only [Option.some.injEq, Prod.mk.injEq] at hx
            obtain ⟨rfl, rfl⟩ := hx
            obtain ⟨le2, I2⟩ := I'.pop st.I le (st.I.len_le I' le)
            exact fin.ok _ rfl u _ _ tk le2 I2 (VR.mono (show g'.bare.le ⟨g'.frz, g.loc⟩ from ⟨fun _ _ e => e, fun _ _ e => nomatch e⟩) (VR.bare hfree hu))
          · split at hx
            · simp only [Option.some.injEq, Prod.mk.injEq] at hx
              obtain ⟨rfl, rfl⟩ := hx
              exact fin.ok _ rfl u _ _ tk le I'.pop0 hu
            · cases hx
        · rename_i i m₁ σ₁ e1
          simp only [Option.some.injEq, Prod.mk.injEq] at hx
          obtain ⟨rfl, rfl⟩ := hx
          refine sub e1 st0 ⟨fun _ _ q => (nomatch q), fun _ _ _ q => (nomatch q), fun j m' σ' q mm' e g' h' tk le I' M' l hσ hE => ?_⟩
          cases q
          refine wpS.of (leaving_ok (s := { s with heap := h', toks := tk }) hfr' rfl (FrN mm') I' l hσ hE fun h'' I'' t => ?_)
          exact fin.ex i rfl e _ _ tk le I''.pop0 l hσ t.drop
        · cases hx
    · cases hx
  · cases hx
end
end Mine
end

section
open PySem PySem.W PyProof.Rows
set_option maxRecDepth 100000
namespace Mine

structure WireOk (K : Frag) : Prop where
  ga : findIn K (.ref wireC) "__getattribute__" = some (some (.builtin "object.__getattribute__"))
  gk : findIn K (.ref wireC) "__getattr__" = some none
  hd : ∃ cd, clsIn K wireC = some cd ∧ cd.hasDict = true
  at_ : findIn K (.ref wireC) "at" = some none
  data : findIn K (.ref wireC) "data" = some none
  sa : findIn K (.ref wireC) "__setattr__" = some (some (.builtin "object.__setattr__"))
  over : plainOver K wireC = true

section
variable {prog : Program} {w : World} {K : Frag} {p : Program} {loose : List Str} {mean : ExcName → Option Value} {mg mb : Str → Option Value} {g₀ : Heap} {c : Cx} {fr : List Fm} {d : Nat} {m : Lo}
  {σ σ' : List TO} {g : Gh} {mm : Str → Option Value} {s : Shared}

theorem find_at (W : WireOk K) {h1 t1 v1 h2 t2 v2 n} : findObj K wireC (some (dictOf (wireEs h1 t1 v1 h2 t2 v2) n)) "at" = some (.value v2) := by
  obtain ⟨cd, hc, hd⟩ := W.hd
  unfold findObj
  rw [hc, Option.bind_some, W.at_]
  simp only [Option.bind_some]
  unfold PySem.W.ownOf
  rw [if_pos hd]
  rfl
theorem find_data (W : WireOk K) {h1 t1 v1 h2 t2 v2 n} : findObj K wireC (some (dictOf (wireEs h1 t1 v1 h2 t2 v2) n)) "data" = some (.value v1) := by
  obtain ⟨cd, hc, hd⟩ := W.hd
  unfold findObj
  rw [hc, Option.bind_some, W.data]
  simp only [Option.bind_some]
  unfold PySem.W.ownOf
  rw [if_pos hd]
  rfl

theorem wire_inst {i : Nat} {b : List UInt8} {a : Int} {u : Value} {fr' : List Fm} {h : Heap} (I : Inv g₀ g fr' σ h) (hu : VR g (.wire i) u) (e : σ[i]? = some (.wire b a)) :
    ∃ x dx h1 t1 t1' h2 t2 t2' n, u = .ref x ∧ g.loc i = some dx ∧ InstAt h x (instObj wireC dx) wireC (some (dictOf (wireEs h1 t1 (.bytes b.toArray t1') h2 t2 (.int a t2')) n)) := by
  refine cont fun PP kq => ?_
  obtain ⟨x, dx, rfl, f, l⟩ := hu
  obtain ⟨x', l', h1, t1, t1', h2, t2, t2', n, hx⟩ := I.so _ _ e
  rw [l] at l'; cases l'
  refine kq ?_
  exact ⟨x, dx, h1, t1, t1', h2, t2, t2', n, rfl, l, I.fz _ _ f, rfl, rfl, hx⟩

theorem sub_at {o : Expr} {pos : Pos} {xa : List TO → R AV} (X : K.In g₀) (W : WireOk K) (hn : isName o = true) (ha : Sub prog w VR g₀ c fr d m (eval o c.env) xa) :
    Sub prog w VR g₀ c fr d m (eval (.Attribute o "at" pos) c.env) (fun σ => bnd (xa σ) fun o σ => match o with
      | .wire i => match σ[i]? with
        | some (.wire _ a) => ret (.int a) σ
        | _ => none
      | _ => none) := by
  intro σ r σ' g mm s Q E hx st fin
  cases o <;> cases hn
  rename_i id ps
  show wpS _ _ (eval (.Name id ps) c.env >>= fun o => standAt pos.atName >>= fun _ => holding [o] (getAttr o "at" true) >>= fun r => letTemporaryGo (.Name id ps) o r >>= fun _ => pure r) _ _ _
  refine wpS_bind (ha.then hx st fin fun a u σ₁ g₁ h₁ tk hx k1 st₁ ra fin₁ => wpS_stand ?_)
  split at hx
  · rename_i i
    split at hx
    · rename_i b a e
      obtain ⟨rfl, rfl⟩ := ret_some hx
      refine cont fun PP kq => ?_
      obtain ⟨x, dx, h1, t1, t1', h2, t2, t2', n, rfl, l, IA⟩ := wire_inst st₁.I ra e
      refine kq ?_
      refine wpS_bind (wpS_holding (wpS.of (get_value (X.keeps st₁.fr.keep) IA W.ga (find_at W) rfl ?_)))
      exact wpS_bind (wpS_pure (wpS_pure (fin₁.pure st₁ ⟨_, rfl⟩)))
    · cases hx
  · cases hx
theorem sub_data {o : Expr} {pos : Pos} {xa : List TO → R AV} (X : K.In g₀) (W : WireOk K) (hn : isName o = true) (ha : Sub prog w VR g₀ c fr d m (eval o c.env) xa) :
    Sub prog w VR g₀ c fr d m (eval (.Attribute o "data" pos) c.env) (fun σ => bnd (xa σ) fun o σ => match o with
      | .wire i => match σ[i]? with
        | some (.wire b _) => ret (.bytes b) σ
        | _ => none
      | _ => none) := by
  intro σ r σ' g mm s Q E hx st fin
  cases o <;> cases hn
  rename_i id ps
  show wpS _ _ (eval (.Name id ps) c.env >>= fun o => standAt pos.atName >>= fun _ => holding [o] (getAttr o "data" true) >>= fun r => letTemporaryGo (.Name id ps) o r >>= fun _ => pure r) _ _ _
  refine wpS_bind (ha.then hx st fin fun a u σ₁ g₁ h₁ tk hx k1 st₁ ra fin₁ => wpS_stand ?_)
  split at hx
  · rename_i i
    split at hx
    · rename_i b a e
      obtain ⟨rfl, rfl⟩ := ret_some hx
      refine cont fun PP kq => ?_
      obtain ⟨x, dx, h1, t1, t1', h2, t2, t2', n, rfl, l, IA⟩ := wire_inst st₁.I ra e
      refine kq ?_
      refine wpS_bind (wpS_holding (wpS.of (get_value (X.keeps st₁.fr.keep) IA W.ga (find_data W) rfl ?_)))
      exact wpS_bind (wpS_pure (wpS_pure (fin₁.pure st₁ ⟨_, rfl⟩)))
    · cases hx
  · cases hx

noncomputable def FnOk (prog : Program) (w : World) (g₀ : Heap) (c : Cx) (fr : List Fm) (d : Nat) (m : Lo) (y : Addr → List AV → List TO → R AV) : Prop :=
  ∀ {a : Addr} {as : List AV} {us : List Value} {σ : List TO} {r : Ex AV} {σ' : List TO} {g : Gh} {mm : Str → Option Value} {s : Shared} {Q : Value → Shared → Prop} {E : Value → Shared → Prop}, y a as σ = some (r, σ') → VRs g as us → St g₀ c fr d m σ g mm s.heap → Fin VR g₀ c fr mm r σ' g s Q E →
    (∃ k, Looks (model prog w) s.heap (keeperOf (.ref a)) k) ∧ wpS (model prog w) c.A (call (.ref a) us) Q E s

theorem wireM_some {name : Str} {f : Addr} (h : wireM K name = some f) : findIn K (.ref wireC) name = some (some (.ref f)) ∧ plainGet K wireC name = true ∧ isFn K (.ref f) = true ∧ name ≠ "data" ∧ name ≠ "at" := by
  unfold wireM at h
  split at h
  · rename_i f' e
    split at h
    · rename_i q
      cases h
      simp only [Bool.and_eq_true, bne_iff_ne, ne_eq] at q
      refine cont fun PP kq => ?_
      obtain ⟨⟨⟨q1, q2⟩, q3⟩, q4⟩ := q
      refine kq ?_
      exact ⟨e, q1, q2, q3, q4⟩
    · cases h
  · cases h

theorem shadow_no {name : Str} {h1 t1 v1 h2 t2 v2 n} (n1 : name ≠ "data") (n2 : name ≠ "at") : shadowIn (some (dictOf (wireEs h1 t1 v1 h2 t2 v2) n)) name = some false := by
  have e1 : (Str.ofString "data" == name) = false := beq_eq_false_iff_ne.mpr (Ne.symm n1)
  have e2 : (Str.ofString "at" == name) = false := beq_eq_false_iff_ne.mpr (Ne.symm n2)
  simp [shadowIn, lookIn, wireEs, Value.isStr, DictEntry.refKey, e1, e2]

theorem backTo_all (pos : Pos) : ∀ {l : List (Bool × Sem Value)}, l.any (·.1) = false → (backTo pos l).all (!·.1) = true
  | [], _ => rfl
  | (b, x) :: r, h => by
    simp only [List.any_cons, Bool.or_eq_false_iff] at h
    simp only [backTo, List.map_cons, List.all_cons, Bool.and_eq_true, Bool.not_eq_true']
    exact ⟨h.1, backTo_all pos h.2⟩

theorem sub_meth {o : Expr} {name : Str} {apos pos : Pos} {es : List Expr} {k : MK} {xo : List TO → R AV} {xs : List TO → R (List AV)} {y : Addr → List AV → List TO → R AV} (X : K.In g₀)
    (hp : (plainBase o && decide (es.length < 29) && (apos.endLine == pos.line)) = true) (hes : ∀ env, (starEach es env).any (·.1) = false) (hk : cMeth K name = some k)
    (ho : Sub prog w VR g₀ c fr d m (eval o c.env) xo) (hs : Sub prog w VRs g₀ c fr d m (spliced (backTo pos (starEach es c.env))) xs) (hy : FnOk prog w g₀ c fr d m y) :
    Sub prog w VR g₀ c fr d m (eval (.Call (.Attribute o name apos) es [] pos) c.env) (fun σ => bnd (xo σ) fun o σ₁ => match xs σ₁ with
      | some (.ok as, σ) => (match k with
        | .own _ f => if kindT σ₁ o = 4 then y f (o :: as) σ else none
        | k => if kindT σ₁ o = kindT σ o then methB K σ k o as else none)
      | _ => none) := by
  intro σ r σ' g mm s Q E hx st fin
  rw [Bool.and_eq_true, Bool.and_eq_true] at hp
  obtain ⟨⟨hp, hlen⟩, hline⟩ := hp
  have hlen := of_decide_eq_true hlen
  have e0 : eval (.Call (.Attribute o name apos) es [] pos) c.env = (eval o c.env >>= fun ov => standAt apos.atName >>= fun _ =>
      methodCall o name apos pos c.env ov (es.length + 0) (backTo pos (starEach es c.env)) []) := by
    cases o <;> first | rfl | cases hp
  rw [e0]
  refine wpS_bind (ho.then hx st fin fun a u σ₁ g₁ h₁ tk hx k1 st₁ ra fin₁ => wpS_stand ?_)
  have few : methodCallForm (es.length + 0) (backTo pos (starEach es c.env)) [] = true := by
    unfold methodCallForm
    rw [backTo_all pos (hes _)]
    simp; omega
  have eC : ∀ ov, calleeOf true o c.env ov name = getMethod ov name (do return (← importBound o c.env).getD true) := fun _ => rfl
  have eP : methodCallPos true o c.env apos pos = pure pos := by
    unfold methodCallPos
    rw [hline]; rfl
  unfold methodCall
  rw [few, eC, eP]
  -- what the getting gives
  have key : ∀ {T : Sem (Value × List Value)} {f : Value}, (∀ {Q' : Value × List Value → Shared → Prop} {E'}, Q' (f, [u]) { s with heap := h₁, toks := tk } → wpAny (model prog w) c.A T Q' E' { s with heap := h₁, toks := tk }) →
      wpS (model prog w) c.A (callWith pos f [u] (backTo pos (starEach es c.env)) []) Q E { s with heap := h₁, toks := tk } →
      wpS (model prog w) c.A (do let (f, first) ← holding [u] T; let callPos ← pure pos; callWith callPos f first (backTo pos (starEach es c.env)) []) Q E { s with heap := h₁, toks := tk } := fun hT hc =>
    wpS_bind (wpS_holding (wpS.of (hT (wpS_bind (wpS_pure hc)))))
  split at hx <;> try (cases hx)
  · rename_i as σ₂ hxs
    have hx2 := hx
    clear hx
    cases k with
    | own nm f =>
      obtain ⟨rfl, hw⟩ := cMeth_name hk
      refine cont fun PP kq => ?_
      obtain ⟨q1, q2, q3, q4, q5⟩ := wireM_some hw
      refine kq ?_
      dsimp only at hx2
      split at hx2
      · rename_i hkd
        have : ∃ i b z, a = .wire i ∧ σ₁[i]? = some (.wire b z) := by
          unfold kindT at hkd
          split at hkd
          · split at hkd <;> cases hkd
          · rename_i i
            split at hkd
            · rename_i b z e; exact ⟨i, b, z, rfl, e⟩
            · cases hkd
          · cases hkd
        refine cont fun PP kq => ?_
        obtain ⟨i, b, z, rfl, e⟩ := this
        obtain ⟨x, dx, h1, t1, t1', h2, t2, t2', n, rfl, l, IA⟩ := wire_inst st₁.I ra e
        refine kq ?_
        unfold plainGet at q2
        simp only [Bool.and_eq_true, beq_iff_eq] at q2
        have X1 : K.In h₁ := X.keeps st₁.fr.keep
        refine key (f := .ref f) (fun hQ => method_fn X1 IA q2.1 q2.2 q1 (beq_iff_eq.mp q3) (shadow_no q4 q5) hQ) ?_
        refine callWithS (backTo_plain pos (hes _)) (hs hxs st₁ ⟨fun as' q us g₂ h₂ tk₂ le I₂ rs => ?_, fun _ q => nomatch q⟩)
        cases q
        exact hy hx2 (VRs.cons (ra.mono le) rs) (st₁.next le I₂) (fin₁.later le)
      · cases hx2
    | _ =>
      dsimp only at hx2
      split at hx2
      · rename_i hkd
        obtain ⟨T, MO⟩ := get_ok (s := { s with heap := h₁, toks := tk }) X hk hx2 hkd ra st₁.I
        refine key (fun hQ => MO.get hQ) ?_
        refine callWithS (backTo_plain pos (hes _)) (hs hxs st₁ ⟨fun as' q us g₂ h₂ tk₂ le I₂ rs => ?_, fun _ q => nomatch q⟩)
        cases q
        refine ⟨keeper_plain (by intro a; nofun), ?_⟩
        have z := methCall_ok (prog := prog) (w := w) (c := c) (fr := fr) (d := d) (m := m) (mm := mm) (s := { s with heap := h₂, toks := tk₂ }) X hx2 (ra.mono le) rs (st₁.next le I₂) (fin₁.later le)
        rw [← hkd] at z
        exact z
      · cases hx2
end
end Mine
end

section
open PySem PySem.W PySem.Calls PyProof.Rows Builtin Builtin.ObjectAttr
set_option maxRecDepth 100000
namespace Mine

structure StoreOk (K : Frag) (C : Addr) : Prop where
  sa : findIn K (.ref C) "__setattr__" = some (some (.builtin "object.__setattr__"))
  cd : ∃ cd, clsIn K C = some cd ∧ cd.hasDict = true ∧ cd.mro.isEmpty = false ∧ cd.mro.contains (.type "object") = true ∧ ∀ self, refuseLoop self "__setattr__" cd.mro = pure ()

section
variable {prog : Program} {w : World} {K : Frag} {A : Around} {E : Value → Shared → Prop} {s : Shared} {x C dx : Addr} {ox : Obj} {es : List DictEntry} {n n' : Nat} {name : Str} {v : Value}

theorem set_to_own {Q : Unit → Shared → Prop} {od : Option Obj} (X : K.In s.heap) (S : StoreOk K C) (I : InstAt s.heap x ox C od) (ht : takerIn K C name = some none)
    (h : ∀ b, wpAny (model prog w) A.in1 (storeInOwnDict (.ref x) (.ref C) (.str name s.toks) name v b) (fun fin s' => match fin with | .done (.ret _) => Q () s' | _ => False) E { s with toks := s.toks + 1 }) :
    wpAny (model prog w) A (setAttr (.ref x) name v) Q E s := by
  have SF := PySem.F.store_object
  refine cont fun PP kq => ?_
  obtain ⟨cd, hc, hdict, hne, hob, hrf⟩ := S.cd
  refine kq ?_
  refine set_plain X I S.sa ?_
  have sub : Looks (model prog w) s.heap (isInstance (.ref x) (.type "object")) true := I.type.andThen (looks_mroIn X (by unfold mroIn; rw [hc, Option.bind_some, if_neg (by rw [hne]; decide), hob]))
  have hm : Looks (model prog w) s.heap (mroOf (.ref C)) cd.mro := (looks_clsIn X hc).andThen .now
  obtain ⟨attr, ha, hr2⟩ := Option.bind_eq_some_iff.mp ht
  have L3 : Looks (model prog w) s.heap (storeTaker? attr) none := by
    cases attr with
    | none => exact .now
    | some a =>
      obtain ⟨b, hb, q⟩ := Option.map_eq_some_iff.mp hr2
      refine (looks_takesIn X hb).andThen ?_
      cases b with
      | true => cases q
      | false => exact .now
  refine codeAny_call_builtin SF.slot.plain SF.entry (@check_slot (model prog w) _ _ { s with toks := s.toks + 1 } "object.__setattr__" "object" "__setattr__" (.ref x) [.str name s.toks, v] [] _ SF.kind SF.split sub (SF.args (.ref x) (.str name s.toks) v) ?_)
  rw [osa_eq, refuse_eq]
  refine wpAny_bind (wpAny_bind (I.type.here (s := { s with toks := s.toks + 1 }) (wpAny_bind (hm.here (s := { s with toks := s.toks + 1 }) ?_))))
  rw [hrf]
  refine wpAny_pure (wpAny_bind (I.type.here (s := { s with toks := s.toks + 1 }) (wpAny_bind ((looks_findIn X ha).here (s := { s with toks := s.toks + 1 }) (wpAny_bind (L3.here (s := { s with toks := s.toks + 1 }) ?_))))))
  refine wpAny_mono (h _) (fun fin s' z => ?_) fun _ _ z => z
  rcases fin with (_ | _ | _ | _) | _ <;> first | exact z | exact z.elim

theorem put_name {Q : PySem.Fin → Shared → Prop} {es' : Int → Tok → List DictEntry} {tk : Tok} (D : s.heap.get? dx = some (dictOf es n)) (hr : es.any (·.refKey) = false) (e : ∀ h t, Obj.putName name h (.str name t) v (dictOf es n) = dictOf (es' h t) n') (hz : ∀ h t, (es' h t).length ≤ 1000)
    (h : ∀ h' i t tk, h'.get? dx = some (dictOf (es' i t) n') → Heap.SameBut dx s.heap h' → Q (.done (.ret .none)) { s with heap := h', toks := tk }) :
    wpAny (model prog w) A (storeInDict dx (.str name tk) name v) Q E s := by
  unfold storeInDict
  refine wpAny_bind (wpAny_pure (wpAny_bind ?_))
  unfold nsSet
  refine wpAny_bind (wpAny_bind (wpAny_askSetting (wpAny_pure (wpAny_bind (wpAny_mkText (wpAny_bind (wpAny_loadPart D ?_)))))))
  dsimp only
  rw [aRefKeyMayBeTheName_at]
  have c : (!es.toArray.any (·.key.isStr name) && es.toArray.any (·.refKey)) = false := by
    rw [show es.toArray.any (·.refKey) = false by simpa using hr, Bool.and_false]
  rw [c]
  refine wpAny_updatePart D ?_
  have D' := Heap.get?_update_self (Obj.putName name (PyData.keyHash w.params name) (.str name s.toks) v) D (by rw [e]; rfl)
  rw [e] at D'
  refine wpAny_bind (wpAny_lookBehind D' (by exact pastItsLine_dict (by rw [List.size_toArray, sizeLine_eq]; have := hz (PyData.keyHash w.params name) s.toks; omega)) ?_)
  exact wpAny_pure (h _ _ _ _ D' (Heap.SameBut.update ..))

theorem store_own {Q : Unit → Shared → Prop} {es' : Int → Tok → List DictEntry} (X : K.In s.heap) (S : StoreOk K C) (I : InstAt s.heap x ox C (some (dictOf es n))) (hd : ox.dict = some dx) (ht : takerIn K C name = some none)
    (hr : es.any (·.refKey) = false) (e : ∀ h t, Obj.putName name h (.str name t) v (dictOf es n) = dictOf (es' h t) n') (hz : ∀ h t, (es' h t).length ≤ 1000)
    (h : ∀ h' i t tk, h'.get? dx = some (dictOf (es' i t) n') → Heap.SameBut dx s.heap h' → Q () { s with heap := h', toks := tk }) :
    wpAny (model prog w) A (setAttr (.ref x) name v) Q E s := by
  refine cont fun PP kq => ?_
  obtain ⟨cd, hc, hdict, hne, hob, hrf⟩ := S.cd
  refine kq ?_
  refine set_to_own X S I ht fun b => ?_
  have D := I.dict
  refine cont fun PP kq => ?_
  obtain ⟨hx, hcl, hn, -⟩ := I
  obtain ⟨oc, odi, oda, osl⟩ := ox
  refine kq ?_
  dsimp only at hcl hd D
  subst hcl hd
  refine wpAny_bind (wpAny_pure (wpAny_bind (wpAny_bind (wpAny_loadPart hx (wpAny_bind ((looks_clsIn X hc).here (s := { s with toks := s.toks + 1 }) ?_))))))
  rw [hdict]
  exact wpAny_pure (a := some dx) (put_name (s := { s with toks := s.toks + 1 }) D hr e hz h)

theorem store_first {Q : Unit → Shared → Prop} {es' : Int → Tok → List DictEntry} (X : K.In s.heap) (S : StoreOk K C) (I : InstAt s.heap x ox C none) (hd : ox.dict = none) (ht : takerIn K C name = some none)
    (e : ∀ h t, Obj.putName name h (.str name t) v (dictOf [] 0) = dictOf (es' h t) n') (hz : ∀ h t, (es' h t).length ≤ 1000) (hf : ∃ vs, ox.data = .fields vs)
    (h : ∀ h' i t tk dx, s.heap.get? dx = none → h'.get? dx = some (dictOf (es' i t) n') → h'.get? x = some { ox with dict := some dx } → (∀ b o, b ≠ x → s.heap.get? b = some o → h'.get? b = some o) → Q () { s with heap := h', toks := tk }) :
    wpAny (model prog w) A (setAttr (.ref x) name v) Q E s := by
  refine cont fun PP kq => ?_
  obtain ⟨cd, hc, hdict, hne, hob, hrf⟩ := S.cd
  refine kq ?_
  refine set_to_own X S I ht fun b => ?_
  refine cont fun PP kq => ?_
  obtain ⟨hx, hcl, hn, -⟩ := I
  have hxlt := Heap.lt_size hx
  obtain ⟨oc, odi, oda, osl⟩ := ox
  obtain ⟨vs, hf⟩ := hf
  refine kq ?_
  dsimp only at hcl hd hf
  subst hcl hd hf
  have h1 : (s.heap.push emptyDict).get? x = some { cls := .ref C, dict := none, data := .fields vs, slots := osl } := Heap.get?_push_of_some _ hx
  have h2 : ((s.heap.push emptyDict).update x fun o => { o with dict := some s.heap.objs.size }).get? x = some { cls := .ref C, dict := some s.heap.objs.size, data := .fields vs, slots := osl } := Heap.get?_update_self _ h1 rfl
  have hne' : x ≠ s.heap.objs.size := Nat.ne_of_lt hxlt
  have h3 : ((s.heap.push emptyDict).update x fun o => { o with dict := some s.heap.objs.size }).get? s.heap.objs.size = some (dictOf [] 0) := (Heap.get?_update_other _ _ hne').trans (Heap.get?_push_size _ rfl)
  refine wpAny_bind (wpAny_pure (wpAny_bind (wpAny_bind (wpAny_loadPart hx (wpAny_bind ((looks_clsIn X hc).here (s := { s with toks := s.toks + 1 }) ?_))))))
  rw [hdict]
  have tail : wpAny (model prog w) A.in1 (do
      let d ← alloc emptyDict
      update x fun o => { o with dict := some d }
      dictMade (.ref C) x d) (fun a s' => wpAny (model prog w) A.in1 (match a with | some d => storeInDict d (.str name s.toks) name v | none => noDictFor (.ref x) (.ref C) name b) (fun fin s' => match fin with | .done (.ret _) => Q () s' | _ => False) E s') E { s with toks := s.toks + 1 } := by
    refine wpAny_bind (wpAny_alloc (wpAny_bind (wpAny_update h1 (wpAny_bind (wpAny_pure (wpAny_pure ?_))))))
    refine put_name (s := { s with heap := (s.heap.push emptyDict).update x fun o => { o with dict := some s.heap.objs.size }, toks := s.toks + 1 }) h3 rfl e hz fun h' i t tk q1 q2 => ?_
    refine h h' i t tk s.heap.objs.size (get_size _) q1 ((q2.2 _ hne').trans h2) fun b o hb z => (q2.2 b (Nat.ne_of_lt (Heap.lt_size z))).trans ((Heap.get?_update_other _ _ (Ne.symm hb)).trans (Heap.get?_push_of_some _ z))
  exact tail
end
end Mine
end

section
open PySem PySem.W PySem.Calls PyProof.Rows
set_option maxRecDepth 100000
namespace Mine

structure DefOk (K : Frag) (f : Addr) (fd : FuncData) : Prop where
  at_ : ∃ oc od sl, K.lookup f = some ⟨oc, od, .func fd, sl⟩
  co : fd.scope.isCoroutine = false
  gen : fd.scope.isGenerator = false
  kind : fd.scope.kind = .function
  cell : ∀ x ∈ fd.scope.names, x.2 ≠ .cell
  code : codeIn K fd.code fd.qualname = true
  typ : typeIn K (.ref f) = some (.type "function")

section
variable {prog : Program} {w : World} {K : Frag} {A : Around} {R : Result → Shared → Prop} {s : Shared} {f : Addr} {fd : FuncData} {body : List Stmt} {args : Args} {binds : List (Str × Value)}

theorem def_call (D : DefOk K f fd) (X : K.In s.heap) (hlim : s.heap.NoLimit) (hroom : A.depth < recursionLimit) (hbody : fd.body = .stmts body) (hbind : ∀ S, peek K S (bindArgs fd args) = some binds) (hloc : ∀ x ∈ binds, fd.scope.names.lookup x.1 = some .local)
    (h : ∀ h₀, h₀.Ns s.heap.objs.size (fun x => binds.reverse.lookup x) → (∀ b o, s.heap.get? b = some o → h₀.get? b = some o) →
      wpAny (model prog w) (A.deeper (callEnv fd s.heap.objs.size f)) (execs body (callEnv fd s.heap.objs.size f)) (fun f s' => R (.ok (.ret (match f with | .ret v => v | _ => .none))) s') (fun _ _ => False) { s with heap := h₀, toks := s.toks + binds.length }) :
    codeAny (model prog w) A (.call (.ref f) args) R s := by
  refine cont fun PP kq => ?_
  obtain ⟨oc, od, sl, ho⟩ := D.at_
  refine kq ?_
  exact codeAny_call_def hroom (X _ _ ho) rfl hlim (codeRec_of X D.code) hbody (kp_binds X hbind) D.cell hloc (fun h₀ a b => wpAny_mono (h h₀ a b) (fun _ _ z => z) fun _ _ z => z.elim) D.co D.gen D.kind
end

section
variable {prog : Program} {w : World} {K : Frag} {A : Around} {Q : Flow → Shared → Prop} {E : Value → Shared → Prop} {s : Shared} {env : Env} {L : Addr} {mm : Str → Option Value}

theorem load_local {x : Str} {pos : Pos} {v : Value} {Q : Value → Shared → Prop} (hk : env.scope.kind = .function) (hx : env.kindOf x = some .local) (hd : x ≠ "__debug__") (hn : s.heap.Ns env.locals mm) (hv : mm x = some v) (h : Q v s) :
    wpAny (model prog w) A (eval (.Name x pos) env) Q E s :=
  wpAny_Name (wpAny_loadName_local hk hx hn hv h) (by simpa using hd)

theorem store_stmt {o b attr : Str} {p1 p2 p3 pos : Pos} {x : Addr} {v : Value} (hk : env.scope.kind = .function) (ho : env.kindOf o = some .local) (hb : env.kindOf b = some .local) (hdo : o ≠ "__debug__") (hdb : b ≠ "__debug__") (hn : s.heap.Ns env.locals mm)
    (vo : mm o = some (.ref x)) (vb : mm b = some v) (h : wpAny (model prog w) A (setAttr (.ref x) attr v) (fun _ => Q .next) E s) :
    wpAny (model prog w) A (exec (.Assign [.Attribute (.Name o p1) attr p2] (.Name b p3) pos) env) Q E s :=
  plainObj_wpAny_Assign_Attribute (load_local hk hb hdb hn vb (load_local hk ho hdo hn vo h)) rfl
end

noncomputable abbrev stmt2 (o b attr : Str) (p1 p2 p3 pos : Pos) : Stmt := .Assign [.Attribute (.Name o p1) attr p2] (.Name b p3) pos

structure WireInit (K : Frag) : Prop where
  made : makesIn K wireC = true
  keep : keepIn K (.ref wireC) = true
  st : StoreOk K wireC
  tk1 : takerIn K wireC "data" = some none
  tk2 : takerIn K wireC "at" = some none
  it : ∃ f fd a1 a2 a3 a4 b1 b2 b3 b4 tz, findIn K (.ref wireC) "__init__" = some (some (.ref f)) ∧ DefOk K f fd ∧ fd.body = .stmts [stmt2 "self" "data" "data" a1 a2 a3 a4, stmt2 "self" "at" "at" b1 b2 b3 b4] ∧
    (∀ S x u, peek K S (bindArgs fd ⟨[x, u], []⟩) = some [(Str.ofString "self", x), (Str.ofString "data", u), (Str.ofString "at", .int 0 tz)]) ∧ fd.scope.names.lookup (Str.ofString "self") = some .local ∧ fd.scope.names.lookup (Str.ofString "data") = some .local ∧ fd.scope.names.lookup (Str.ofString "at") = some .local

section
variable {prog : Program} {w : World} {K : Frag} {A : Around} {E : Value → Shared → Prop} {s : Shared} {u : Value}

theorem wire_call {Q : Value → Shared → Prop} (W : WireInit K) (X : K.In s.heap) (hlim : s.heap.NoLimit) (hroom : A.depth + 1 < recursionLimit)
    (h : ∀ h' x dx h1 t1 h2 t2 tz tk n, s.heap.get? x = none → s.heap.get? dx = none → s.heap.objs.size ≤ dx → x ≠ dx → h'.get? x = some (instObj wireC dx) → h'.get? dx = some (dictOf (wireEs h1 t1 u h2 t2 (.int 0 tz)) n) → (∀ b o, s.heap.get? b = some o → h'.get? b = some o) → Q (.ref x) { s with heap := h', toks := tk }) :
    wpAny (model prog w) A (call (.ref wireC) [u]) Q E s := by
  refine cont fun PP kq => ?_
  obtain ⟨f, fd, a1, a2, a3, a4, b1, b2, b3, b4, tz, hi, D, hbody, hbind, l1, l2, l3⟩ := W.it
  obtain ⟨hh, g, d, t, os⟩ := s
  refine kq ?_
  dsimp only at X hlim h
  refine wpAny_call (make_core (makes_of X W.made) (looks_findIn X hi) (fun self => bind_fn X self D.typ) (.inl rfl) ?_)
  have k : ∀ b o, hh.get? b = some o → ((hh.push emptyDict).push (instObj wireC hh.objs.size)).get? b = some o := fun b o e => Heap.get?_push_of_some _ (Heap.get?_push_of_some _ e)
  have hx : ((hh.push emptyDict).push (instObj wireC hh.objs.size)).get? (hh.objs.size + 1) = some (instObj wireC hh.objs.size) := by heap_get
  have hdx : ((hh.push emptyDict).push (instObj wireC hh.objs.size)).get? hh.objs.size = some (dictOf [] 0) := by heap_get
  have nx : hh.get? (hh.objs.size + 1) = none := Heap.get?_none_of_le (Nat.le_succ _)
  generalize hh.objs.size + 1 = x at hx nx
  have hnx : x ≠ hh.objs.size := fun q => by rw [q, hdx] at hx; cases hx
  have hsz : ∀ b o, ((hh.push emptyDict).push (instObj wireC hh.objs.size)).get? b = some o → b ≠ ((hh.push emptyDict).push (instObj wireC hh.objs.size)).objs.size := fun b o e => Nat.ne_of_lt (Heap.lt_size e)
  generalize (hh.push emptyDict).push (instObj wireC hh.objs.size) = h₁ at k hx hdx hsz
  have X1 := X.keeps k
  refine def_call D X1 (hlim.keeps k) (by show A.depth + 1 < _; exact hroom) hbody (fun S => hbind S _ _) (fun y hy => ?_) fun h₀ hns k0 => ?_
  · simp only [List.mem_cons, List.not_mem_nil, or_false] at hy
    rcases hy with rfl | rfl | rfl
    · exact l1
    · exact l2
    · exact l3
  have X2 := X1.keeps k0
  have hx2 := k0 _ _ hx
  have hd2 := k0 _ _ hdx
  refine wpAny_execs_cons (store_stmt (x := x) (v := u) D.kind l1 l2 (by decide) (by decide) hns rfl rfl ?_)
  refine store_own (s := { heap := h₀, gens := g, drawn := d, toks := _, os := os }) (es' := fun h t => [⟨h, .str "data" t, u⟩]) (n' := 1) X2 W.st ⟨hx2, rfl, rfl, hd2⟩ rfl W.tk1 rfl (fun _ _ => rfl) (fun _ _ => by simp) fun h3 i1 t1 tk1 q1 s1 => ?_
  have X3 : K.In h3 := fun a o e => (s1.2 a (fun q => by have := X _ _ e; rw [q, get_size] at this; cases this)).trans (X2 a o e)
  have hns3 : h3.Ns h₁.objs.size _ := hns.sameBut s1 (Ne.symm (hsz _ _ hdx))
  have hx3 := (s1.2 x hnx).trans hx2
  refine wpAny_execs_cons (store_stmt (x := x) (v := .int 0 tz) D.kind l1 l3 (by decide) (by decide) hns3 rfl rfl ?_)
  refine store_own (s := { heap := h3, gens := g, drawn := d, toks := tk1, os := os }) (es' := fun h t => wireEs i1 t1 u h t (.int 0 tz)) (n' := 2) X3 W.st ⟨hx3, rfl, rfl, q1⟩ rfl W.tk2 rfl (fun _ _ => rfl) (fun _ _ => by simp) fun h4 i2 t2 tk2 q2 s2 => ?_
  refine wpAny_execs_nil ⟨rfl, ?_⟩
  exact h h4 x hh.objs.size i1 t1 i2 t2 tz tk2 2 nx (get_size _) (Nat.le_refl _) hnx ((s2.2 x hnx).trans hx3) q2 fun b o e => by
    have hb : b ≠ hh.objs.size := Nat.ne_of_lt (Heap.lt_size e)
    exact (s2.2 b hb).trans ((s1.2 b hb).trans (k0 _ _ (k _ _ e)))
end
end Mine
end

section
open PySem PySem.W PySem.Calls PyProof.Rows
set_option maxRecDepth 100000
namespace Mine

structure ExcMro (bm : List Value) : Prop where
  exc : bm.contains (.type "Exception") = true
  noA : bm.contains (.type "AttributeError") = false
  noN : bm.contains (.type "NameError") = false
  base : bm.contains (.type "BaseException") = true

section
variable {M : Model} {A : Around} {E : Value → Shared → Prop} {h : Heap} {g : Array GenState} {d : Drawn} {t : Nat} {os : OsState}
variable {nm q : Str} {C N : Addr} {bs bm : List Value} {hdct : Bool} {sn : List Str} {sub : List Value} {ab : Bool} {col : Option Bool} {dd : Option Addr} {k0 k1 k2 k3 k5 : Option Value}

theorem check_new (hm : ExcMro bm) {rest : List Value} {Q : Unit → Shared → Prop} (hC : h.get? C = some (excClassObj nm q C N bs bm hdct sn sub ab col dd k0 k1 k2 k3 k5 "Exception.__new__"))
    (hq : Q () ⟨h, g, d, t, os⟩) : wpAny M A (checkBuiltinCall "Exception.__new__" ⟨.ref C :: rest, []⟩) Q E ⟨h, g, d, t, os⟩ := by
  have Fn := PySem.F.excBase_Exception
  have hcont : (Value.ref C :: bm).contains (.type "Exception") = true := by rw [List.contains_cons, hm.exc, Bool.or_true]
  have hstar := Fn.noStar
  simp only [checkBuiltinCall, Fn.newKind, Fn.newSplit, Fn.newRow]
  repeat (first | refine wpAny_loadPart_at hC ?_ | (refine wpAny_isSubtype_exc hC ?_; rw [hcont]) | refine wpAny_staticBase_exc hC ?_ | refine wpAny_madeBy_exc hC ?_ | simp only [bne_self_eq_false, Bool.false_eq_true, if_false] | wp_step)
  exact hq
end

noncomputable abbrev excObj (C t : Addr) : Obj := { cls := .ref C, data := .fields #[.ref t, .none, .none, .none, .bool false, .none] }

section
variable {prog : Program} {w : World} {A : Around} {R : Result → Shared → Prop} {h : Heap} {g : Array GenState} {d : Drawn} {t : Nat} {os : OsState}
variable {nm q : Str} {C N : Addr} {bs bm : List Value} {hdct : Bool} {sn : List Str} {sub : List Value} {ab : Bool} {col : Option Bool} {dd : Option Addr} {k0 k1 k2 k3 k5 : Option Value}

theorem exc_new (hm : ExcMro bm) {rest : List Value} (hC : h.get? C = some (excClassObj nm q C N bs bm hdct sn sub ab col dd k0 k1 k2 k3 k5 "Exception.__new__"))
    (hq : R (.ok (.ret (.ref (h.objs.size + 1)))) ⟨(h.push { cls := .type "tuple", data := .seq rest.toArray }).push (excObj C h.objs.size), g, d, t, os⟩) (hrest : rest.length ≤ sizeLine) :
    codeAny (model prog w) A (.builtin "Exception.__new__" ⟨.ref C :: rest, []⟩) R ⟨h, g, d, t, os⟩ := by
  have Fn := PySem.F.excBase_Exception
  have hends := Fn.ends
  have hcB : (Value.ref C :: bm).contains (.type "Exception") = true := by rw [List.contains_cons, hm.exc, Bool.or_true]
  have hcA : (Value.ref C :: bm).contains (.type "AttributeError") = false := by rw [List.contains_cons, hm.noA]; rfl
  have hcN : (Value.ref C :: bm).contains (.type "NameError") = false := by rw [List.contains_cons, hm.noN]; rfl
  refine codeAny_builtinAt Fn.entry ?_
  unfold Builtin.«BaseException.__new__»
  refine PySem.wpAt_bind ?_
  show PySem.wpAt _ _ _ (stack >>= _) _ _ _
  refine PySem.wpAt_bind (PySem.wpAt_stack fun p below => PySem.wpAt_of_wpAny ?_)
  wp_walk
  refine PySem.wpAt_of_wpAny ?_
  rw [Fn.owner]
  repeat (first | with_reducible refine wpAny_madeHere_exc Fn.canon hC ?_ | with_reducible refine wpAny_loadPart_at hC ?_ | (with_reducible refine wpAny_isSubtype_exc hC ?_; first | rw [hcB] | rw [hcA] | rw [hcN]) | wp_step)
  show R _ _
  rw [Heap.size_push]
  exact hq
end
end Mine
end

section
open PySem PySem.W PySem.Calls PyProof.Rows
set_option maxRecDepth 100000
namespace Mine
section
variable {prog : Program} {w : World} {K : Frag} {A : Around} {E : Value → Shared → Prop} {h : Heap} {g : Array GenState} {d : Drawn} {t : Nat} {os : OsState}
variable {nm q : Str} {C N : Addr} {bs bm : List Value} {hdct : Bool} {sn : List Str} {sub : List Value} {ab : Bool} {col : Option Bool} {dd : Option Addr} {k0 k1 k2 k3 k5 : Option Value}

theorem exc_type_call (hm : ExcMro bm) (X : K.In h) {f : Addr} (hi : findIn K (.ref C) "__init__" = some (some (.ref f))) (hf : typeIn K (.ref f) = some (.type "function")) {rest : List Value} {Q : PySem.Fin → Shared → Prop}
    (hC : h.get? C = some (excClassObj nm q C N bs bm hdct sn sub ab col dd k0 k1 k2 k3 k5 "Exception.__new__")) (hrest : rest.length ≤ sizeLine)
    (hq : wpAny (model prog w) A (call (.ref f) (.ref (h.objs.size + 1) :: rest)) (fun v s' => v = .none ∧ Q (.done (.ret (.ref (h.objs.size + 1)))) s') E ⟨(h.push { cls := .type "tuple", data := .seq rest.toArray }).push (excObj C h.objs.size), g, d, t, os⟩) :
    wpAny (model prog w) A (Builtin.«type.__call__» ⟨.ref C :: rest, []⟩) Q E ⟨h, g, d, t, os⟩ := by
  have Fn := PySem.F.excBase_Exception
  repeat (first | with_reducible refine wpAny_loadPart_at hC ?_ | with_reducible refine wpAny_madeBy_exc hC ?_ | wp_step)
  refine codeAny_call_builtin_code (Code.quiet_builtin _ Fn.quiet) (check_new hm hC ?_)
  refine exc_new hm hC ?_ hrest
  show wpAny _ _ _ _ _ _
  have k : ∀ b o, h.get? b = some o → ((h.push { cls := .type "tuple", data := .seq rest.toArray }).push (excObj C h.objs.size)).get? b = some o := fun b o e => Heap.get?_push_of_some _ (Heap.get?_push_of_some _ e)
  have hC₁ := k _ _ hC
  have X1 := X.keeps k
  have hget : ((h.push { cls := .type "tuple", data := .seq rest.toArray }).push (excObj C h.objs.size)).get? (h.objs.size + 1) = some (excObj C h.objs.size) := by heap_get
  have hcC : (Value.ref C :: bm).contains (.ref C) = true := by simp
  unfold isInstance
  repeat (first | with_reducible refine wpAny_loadPart_at hget ?_ | (with_reducible refine wpAny_isSubtype_exc hC₁ ?_; rw [hcC]) | wp_step)
  show wpAny _ _ (typeLookup (.ref C) _) _ _ _
  refine (looks_findIn X1 hi).at ?_
  refine wpAny_holding (wpAny_bind ((bind_fn X1 _ hf).at ?_))
  refine wpAny_bind (wpAny_mono hq (fun v s' z => ?_) fun _ _ z => z)
  obtain ⟨rfl, z⟩ := z
  exact wpAny_pure (wpAny_pure z)

theorem exc_core (hm : ExcMro bm) (X : K.In h) {f : Addr} (hi : findIn K (.ref C) "__init__" = some (some (.ref f))) (hf : typeIn K (.ref f) = some (.type "function")) {rest : List Value} {Q : Value → Shared → Prop}
    (hC : h.get? C = some (excClassObj nm q C N bs bm hdct sn sub ab col dd k0 k1 k2 k3 k5 "Exception.__new__")) (hrest : rest.length ≤ sizeLine)
    (hq : wpAny (model prog w) (A.under (.builtin "type.__call__" ⟨.ref C :: rest, []⟩)) (call (.ref f) (.ref (h.objs.size + 1) :: rest)) (fun v s' => v = .none ∧ Q (.ref (h.objs.size + 1)) s') E ⟨(h.push { cls := .type "tuple", data := .seq rest.toArray }).push (excObj C h.objs.size), g, d, t, os⟩) :
    wpAny (model prog w) A (call (.ref C) rest) Q E ⟨h, g, d, t, os⟩ := by
  have f1 := tc_lookup
  have f2 := tc_bind (.ref C)
  have hT : (⟨h, g, d, t, os⟩ : Shared).TypeIs (.ref C) "type" := ⟨_, hC, rfl⟩
  refine wpAny_call (codeAny_of_tree ?_)
  show wpAny _ _ (callAny (.ref C) _) _ _ _
  repeat (any_goals (first | assumption | with_reducible refine wpAny_loadPart_at hC ?_ | wp_step))
  refine ⟨rfl, ?_⟩
  refine codeAny_call_builtin_at (Code.quiet_builtin _ (by decide +kernel)) entry_typeCall (wpAny_check_type_call_sub hC (exc_type_call hm X hi hf hC hrest ?_))
  exact hq
end
end Mine
end

section
open PySem PySem.W PySem.Calls PyProof.Rows
set_option maxRecDepth 100000
namespace Mine
section
variable {prog : Program} {w : World} {K : Frag} {A : Around} {E : Value → Shared → Prop} {s : Shared}

theorem ei_stub : Manifest.isStub "Exception" = false := by decide +kernel
theorem ei_find : findCls K (.type "Exception") (.type "type") "__init__" = some (.val (.builtin "Exception.__init__")) := by
  have e : ∀ K : Frag, findCls K (.type "Exception") (.type "type") "__init__" = findCls [] (.type "Exception") (.type "type") "__init__" := fun _ => rfl
  rw [e]; kernel_rfl
theorem ei_attr {expr : Bool} {Q : Value → Shared → Prop} (X : K.In s.heap) (h : ∀ tk, Q (.builtin "Exception.__init__") { s with toks := tk }) : wpAny (model prog w) A (getAttr (.type "Exception") "__init__" expr) Q E s := by
  have hstub : opaqueClassAbove (.type "Exception") = pure none := by unfold opaqueClassAbove; dsimp only; rw [ei_stub]; rfl
  have L0 : Looks (model prog w) s.heap (typeOf (.type "Exception")) (.type "type") := Looks.of_pure (kitMeta_of (by decide +kernel))
  have hg : findIn K (.type "type") "__getattribute__" = some (some (.builtin "type.__getattribute__")) := type_tga
  refine cls_open X (Looks.of_pure hstub) L0 hg (looks_hook X (r := none) (by rfl)) (by show subIn K _ _ = _; rfl) ei_find ?_
  exact wpAny_pure (handed_on rfl (h _))
theorem ei_method {pl : Sem Bool} {Q : Value × List Value → Shared → Prop} (X : K.In s.heap) (h : ∀ tk, Q (.builtin "Exception.__init__", []) { s with toks := tk }) : wpAny (model prog w) A (getMethod (.type "Exception") "__init__" pl) Q E s := by
  have L0 : Looks (model prog w) s.heap (typeOf (.type "Exception")) (.type "type") := Looks.of_pure (kitMeta_of (by decide +kernel))
  unfold getMethod specialOf
  refine wpAny_bind (wpAny_bind (L0.here ((Looks.of_pure KF.slot_tga.lookup).here ?_)))
  dsimp only
  rw [if_pos canon_tga]
  exact wpAny_bind (ei_attr X fun tk => wpAny_pure (h tk))

variable {C N : Addr} {nm q : Str} {bs bm : List Value} {hdct : Bool} {sn : List Str} {sub : List Value} {ab : Bool} {col : Option Bool} {dd : Option Addr} {k0 k1 k2 k3 k5 : Option Value}
theorem ei_check {h : Heap} {g : Array GenState} {d : Drawn} {t : Nat} {os : OsState} {e : Addr} {oe : Obj} {rest : List Value} {Q : Unit → Shared → Prop} (hm : ExcMro bm)
    (hC : h.get? C = some (excClassObj nm q C N bs bm hdct sn sub ab col dd k0 k1 k2 k3 k5 "Exception.__new__")) (he : h.get? e = some oe) (hcls : oe.cls = .ref C) (hq : Q () ⟨h, g, d, t, os⟩) :
    wpAny (model prog w) A (checkBuiltinCall "Exception.__init__" ⟨.ref e :: rest, []⟩) Q E ⟨h, g, d, t, os⟩ := by
  have F := PySem.F.excBase_Exception
  have hcB : (Value.ref C :: bm).contains (.type "Exception") = true := by rw [List.contains_cons, hm.exc, Bool.or_true]
  have hshort := F.noStar
  simp only [checkBuiltinCall, F.initKind, F.initSplit, F.initRow]
  repeat (first | (with_reducible refine wpAny_loadPart_at he ?_; rw [hcls]) | with_reducible refine wpAny_loadPart_at hC ?_ | (with_reducible refine wpAny_isSubtype_exc hC ?_; rw [hcB]) | wp_step)
  refine wpAny_onRaise ?_
  rw [show ∀ (a b : String) (n : Nat), Bind.check ⟨.positional, "*", "Exception", .self, [⟨"args", .varPos, false⟩]⟩ a b n (List.map (fun x => x.fst) ({ pos := Value.ref e :: rest } : Args).kw) = pure () from
    fun a b n => check_star_args _ _ _ _ _ _]
  exact wpAny_pure hq
theorem ei_call {e t₀ : Addr} {u : Value} {Q : Value → Shared → Prop} (hm : ExcMro bm) (hC : s.heap.get? C = some (excClassObj nm q C N bs bm hdct sn sub ab col dd k0 k1 k2 k3 k5 "Exception.__new__")) (he : s.heap.get? e = some (excObj C t₀))
    (h : ∀ h' t, h'.get? e = some (excObj C t) → (∀ b o, b ≠ e → s.heap.get? b = some o → h'.get? b = some o) → Q .none { s with heap := h' }) :
    wpAny (model prog w) A (call (.builtin "Exception.__init__") [.ref e, u]) Q E s := by
  have F := PySem.F.excBase_Exception
  have hcB : (Value.ref C :: bm).contains (.type "Exception") = true := by rw [List.contains_cons, hm.exc, Bool.or_true]
  obtain ⟨hh, g, d, t, os⟩ := s
  dsimp only at hC he h
  refine wpAny_call (codeAny_call_builtin F.init.plain F.initEntry (ei_check hm hC he rfl ?_))
  clear hm hcB
  wp_walk
  refine h _ hh.objs.size ?_ fun b o hb z => ?_
  · exact Heap.get?_update_self _ (Heap.get?_push_of_some _ he) rfl
  · rw [Heap.get?_update_other _ _ (Ne.symm hb)]; exact Heap.get?_push_of_some _ z
end
end Mine
end

section
open PySem PySem.W PySem.Calls PyProof.Rows
set_option maxRecDepth 100000
namespace Mine

structure ExcOk (K : Frag) (C : Addr) : Prop where
  obj : ∃ nm q N bs bm hdct sn sub ab col dd k0 k1 k2 k3 k5, K.lookup C = some (excClassObj nm q C N bs bm hdct sn sub ab col dd k0 k1 k2 k3 k5 "Exception.__new__") ∧ ExcMro bm
  keep : keepIn K (.ref C) = true
  st : StoreOk K C
  tk1 : takerIn K C "what" = some none
  tk2 : takerIn K C "at" = some none
  it : ∃ f fd e1 e2 e3 e4 e5 e6 a1 a2 a3 a4 b1 b2 b3 b4, findIn K (.ref C) "__init__" = some (some (.ref f)) ∧ DefOk K f fd ∧
    fd.body = .stmts [.Expr (.Call (.Attribute (.Name "Exception" e1) "__init__" e2) [.Name "self" e3, .Name "what" e4] [] e5) e6, stmt2 "self" "what" "what" a1 a2 a3 a4, stmt2 "self" "at" "at" b1 b2 b3 b4] ∧ (e2.endLine == e5.line) = true ∧
    (∀ S x u v, peek K S (bindArgs fd ⟨[x, u, v], []⟩) = some [(Str.ofString "self", x), (Str.ofString "what", u), (Str.ofString "at", v)]) ∧
    fd.scope.names.lookup (Str.ofString "self") = some .local ∧ fd.scope.names.lookup (Str.ofString "what") = some .local ∧ fd.scope.names.lookup (Str.ofString "at") = some .local ∧ fd.scope.names.lookup (Str.ofString "Exception") = some .globalImplicit ∧
    fd.globals = mainGlobals ∧ fd.builtins = builtinsNs
  gl : nsIn K mainGlobals "Exception" = some none
  gb : bootBuiltins "Exception" = some (.type "Exception")

section
variable {prog : Program} {w : World} {A : Around} {E : Value → Shared → Prop} {s : Shared}
theorem spliced_two {t1 t2 : Sem Value} {Q : List Value → Shared → Prop} (h : wpAny (model prog w) A t1 (fun u s₁ => wpAny (model prog w) A t2 (fun v s₂ => Q [u, v] s₂) E s₁) E s) : wpAny (model prog w) A (spliced [(false, t1), (false, t2)]) Q E s := by
  show wpAny _ _ (t1 >>= fun u => (pure [u] : Sem (List Value)) >>= fun here => holding here (spliced [(false, t2)]) >>= fun r => pure (here ++ r)) _ _ _
  refine wpAny_bind (wpAny_mono h (fun u s₁ h₁ => wpAny_bind (wpAny_pure (wpAny_bind (wpAny_holding ?_)))) fun _ _ z => z)
  show wpAny _ _ (t2 >>= fun u => (pure [u] : Sem (List Value)) >>= fun here => holding here (spliced []) >>= fun r => pure (here ++ r)) _ _ _
  exact wpAny_bind (wpAny_mono h₁ (fun v s₂ h₂ => wpAny_bind (wpAny_pure (wpAny_bind (wpAny_holding (wpAny_pure (wpAny_pure (wpAny_pure h₂))))))) fun _ _ z => z)

theorem method_arm {env : Env} {o : Expr} {name : Str} {apos pos : Pos} {es : List Expr} (hp : (plainBase o && decide (es.length < 29) && (apos.endLine == pos.line)) = true) (hes : (starEach es env).any (·.1) = false) :
    eval (.Call (.Attribute o name apos) es [] pos) env = (do
      let ov ← eval o env
      standAt apos.atName
      let (f, first) ← holding [ov] (getMethod ov name (do return (← importBound o env).getD true))
      callWith pos f first (backTo pos (starEach es env)) []) := by
  rw [Bool.and_eq_true, Bool.and_eq_true] at hp
  obtain ⟨⟨hp, hlen⟩, hline⟩ := hp
  have hlen := of_decide_eq_true hlen
  have e0 : eval (.Call (.Attribute o name apos) es [] pos) env = (eval o env >>= fun ov => standAt apos.atName >>= fun _ =>
      methodCall o name apos pos env ov (es.length + 0) (backTo pos (starEach es env)) []) := by
    cases o <;> first | rfl | cases hp
  rw [e0]
  have few : methodCallForm (es.length + 0) (backTo pos (starEach es env)) [] = true := by
    unfold methodCallForm
    rw [backTo_all pos hes]
    simp; omega
  have eP : methodCallPos true o env apos pos = pure pos := by
    unfold methodCallPos
    rw [hline]; rfl
  unfold methodCall
  rw [few, eP]
  rfl
end

section
variable {prog : Program} {w : World} {K : Frag} {p : Program} {loose : List Str} {mean : ExcName → Option Value} {mg mb : Str → Option Value} {g₀ : Heap} {A : Around} {E : Value → Shared → Prop} {s : Shared} {C : Addr} {u v : Value}

theorem exc_call {Q : Value → Shared → Prop} (O : TopOk K p loose mean mg mb g₀) (k₀ : ∀ b o, g₀.get? b = some o → s.heap.get? b = some o) (X : ExcOk K C) (hroom : A.depth + 1 < recursionLimit)
    (h : ∀ h' e dx t h1 t1 h2 t2 tk n, s.heap.get? e = none → s.heap.get? dx = none → s.heap.objs.size ≤ e → e ≠ dx → h'.get? e = some { excObj C t with dict := some dx } → h'.get? dx = some (dictOf (excEs h1 t1 u h2 t2 v) n) → (∀ b o, s.heap.get? b = some o → h'.get? b = some o) → Q (.ref e) { s with heap := h', toks := tk }) :
    wpAny (model prog w) A (call (.ref C) [u, v]) Q E s := by
  refine cont fun PP kq => ?_
  obtain ⟨nm, q, N, bs, bm, hdct, sn, sub, ab, col, dd, k0, k1, k2, k3, k5, hK, hm⟩ := X.obj
  obtain ⟨f, fd, e1, e2, e3, e4, e5, e6, a1, a2, a3, a4, b1, b2, b3, b4, hi, D, hbody, hline, hbind, l1, l2, l3, l4, hg, hbl⟩ := X.it
  obtain ⟨hh, g, d, t, os⟩ := s
  refine kq ?_
  dsimp only at k₀ h
  have X0 : K.In hh := O.X.keeps k₀
  have hC := X0 _ _ hK
  refine exc_core hm X0 hi D.typ hC (by rw [sizeLine_eq]; simp) ?_
  have k : ∀ b o, hh.get? b = some o → ((hh.push { cls := .type "tuple", data := .seq [u, v].toArray }).push (excObj C hh.objs.size)).get? b = some o := fun b o e => Heap.get?_push_of_some _ (Heap.get?_push_of_some _ e)
  have he : ((hh.push { cls := .type "tuple", data := .seq [u, v].toArray }).push (excObj C hh.objs.size)).get? (hh.objs.size + 1) = some (excObj C hh.objs.size) := by heap_get
  have ne : hh.get? (hh.objs.size + 1) = none := Heap.get?_none_of_le (Nat.le_succ _)
  have le : hh.objs.size ≤ hh.objs.size + 1 := Nat.le_succ _
  generalize (hh.push { cls := .type "tuple", data := .seq [u, v].toArray }).push (excObj C hh.objs.size) = h₁ at k he ⊢
  generalize hh.objs.size + 1 = e at he ne le ⊢
  have X1 := X0.keeps k
  refine wpAny_call (def_call D X1 ((O.T.nolimit.keeps k₀).keeps k) (by show A.depth + 1 < _; exact hroom) hbody (fun S => hbind S _ _ _) (fun y hy => ?_) fun h₀ hns kk => ?_)
  · simp only [List.mem_cons, List.not_mem_nil, or_false] at hy
    rcases hy with rfl | rfl | rfl
    · exact l1
    · exact l2
    · exact l3
  have X2 := X1.keeps kk
  have he2 := kk _ _ he
  have kall : ∀ b o, hh.get? b = some o → h₀.get? b = some o := fun b o z => kk _ _ (k _ _ z)
  have hC2 := kall _ _ hC
  have gE : ∀ {s' : Shared} {A' : Around} {Q' : Value → Shared → Prop} {E' : Value → Shared → Prop} {L : Addr} {pos : Pos}, (∀ b o, hh.get? b = some o → s'.heap.get? b = some o) → Q' (.type "Exception") s' →
      wpAny (model prog w) A' (eval (.Name "Exception" pos) (callEnv fd L f)) Q' E' s' := by
    intro s' A' Q' E' L pos kk' q'
    have k2 : ∀ b o, g₀.get? b = some o → s'.heap.get? b = some o := fun b o z => kk' _ _ (k₀ _ _ z)
    refine Calls.Name_function_global D.kind l4 ?_ (by decide)
    exact Calls.loadGlobal_builtin (show s'.heap.Ns fd.globals mg from hg ▸ O.T.g.keeps k2) (mg_none_of O.X O.T.g X.gl) (show s'.heap.Ns fd.builtins mb from hbl ▸ O.T.b.keeps k2) ((O.T.builtins "Exception" (by decide)).trans X.gb) q'
  refine wpAny_execs_cons (wpAny_Expr (hi := by unfold interactive; rw [show (callEnv fd h₁.objs.size f).scope.kind = .function from D.kind]; rfl) (hs := rfl) ?_)
  rw [method_arm (by rw [hline]; rfl) rfl]
  refine wpAny_bind (gE kall (wpAny_bind (wpAny_standAt ?_)))
  refine wpAny_bind (wpAny_holding (ei_method (s := { heap := h₀, gens := g, drawn := d, toks := _, os := os }) X2 fun tk => ?_))
  refine callWith_method1 (spliced_two ?_)
  refine load_local (env := callEnv fd h₁.objs.size f) D.kind l1 (by decide) hns rfl ?_
  refine load_local (env := callEnv fd h₁.objs.size f) D.kind l2 (by decide) hns rfl ?_
  refine ei_call (t₀ := hh.objs.size) (s := { heap := h₀, gens := g, drawn := d, toks := tk, os := os }) hm hC2 he2 fun h3 t3 he3 k3 => ?_
  have neL : e ≠ h₁.objs.size := Nat.ne_of_lt (Heap.lt_size he)
  have kh3 : ∀ b o, hh.get? b = some o → h3.get? b = some o := fun b o z => k3 b o (fun q => by rw [q, ne] at z; cases z) (kall _ _ z)
  have hns3 : h3.Ns h₁.objs.size (fun y => [(Str.ofString "self", Value.ref e), (Str.ofString "what", u), (Str.ofString "at", v)].reverse.lookup y) := by
    refine cont fun PP kq => ?_
    obtain ⟨oL, es, ep, hL, r⟩ := hns
    refine kq ?_
    exact ⟨oL, es, ep, k3 _ _ (Ne.symm neL) hL, r⟩
  refine wpAny_execs_cons (store_stmt (x := e) (v := u) D.kind l1 l2 (by decide) (by decide) hns3 rfl rfl ?_)
  refine store_first (s := { heap := h3, gens := g, drawn := d, toks := tk, os := os }) (es' := fun h t => [⟨h, .str "what" t, u⟩]) (n' := 1) (X0.keeps kh3) X.st ⟨he3, rfl, rfl, trivial⟩ rfl X.tk1 (fun _ _ => rfl) (fun _ _ => by simp) ⟨_, rfl⟩ fun h4 i1 t1 tk1 dx n4 d4 e4 k4 => ?_
  have hdx : hh.get? dx = none := by
    cases z : hh.get? dx with
    | none => rfl
    | some o => rw [kh3 _ _ z] at n4; cases n4
  have nedx : e ≠ dx := fun q => by rw [← q, he3] at n4; cases n4
  have kh4 : ∀ b o, hh.get? b = some o → h4.get? b = some o := fun b o z => k4 b o (fun q => by rw [q, ne] at z; cases z) (kh3 _ _ z)
  have hns4 : h4.Ns h₁.objs.size (fun y => [(Str.ofString "self", Value.ref e), (Str.ofString "what", u), (Str.ofString "at", v)].reverse.lookup y) := by
    refine cont fun PP kq => ?_
    obtain ⟨oL, es, ep, hL, r⟩ := hns3
    refine kq ?_
    exact ⟨oL, es, ep, k4 _ _ (Ne.symm neL) hL, r⟩
  have neLx : h₁.objs.size ≠ dx := fun q => by
    refine cont fun PP kq => ?_
    obtain ⟨oL, es, ep, hL, r⟩ := hns3
    refine kq ?_
    rw [q, n4] at hL; cases hL
  refine wpAny_execs_cons (store_stmt (x := e) (v := v) D.kind l1 l3 (by decide) (by decide) hns4 rfl rfl ?_)
  refine store_own (s := { heap := h4, gens := g, drawn := d, toks := tk1, os := os }) (es' := fun h t => excEs i1 t1 u h t v) (n' := 2) (X0.keeps kh4) X.st ⟨e4, rfl, rfl, d4⟩ rfl X.tk2 rfl (fun _ _ => rfl) (fun _ _ => by simp) fun h5 i2 t2 tk2 q2 s2 => ?_
  refine wpAny_execs_nil ⟨rfl, ?_⟩
  refine h h5 e dx t3 i1 t1 i2 t2 tk2 2 ne hdx le nedx ((s2.2 e nedx).trans e4) q2 fun b o z => (s2.2 b (fun q => by rw [q, hdx] at z; cases z)).trans (kh4 _ _ z)
end
end Mine
end

section
open PySem PySem.W PySem.Calls PyProof.Rows
set_option maxRecDepth 100000
namespace Mine

noncomputable abbrev isExcC (C : Addr) : Prop := C = 59 ∨ C = 71 ∨ C = 83

structure ClsOk (K : Frag) : Prop where
  wire : WireOk K
  init : WireInit K
  exc : ∀ C, isExcC C → ExcOk K C

section
variable {prog : Program} {w : World} {K : Frag} {p : Program} {loose : List Str} {mean : ExcName → Option Value} {mg mb : Str → Option Value} {g₀ : Heap} {c : Cx} {fr : List Fm} {d : Nat} {m : Lo}
  {σ σ' : List TO} {r : Ex AV} {g : Gh} {mm : Str → Option Value} {s : Shared} {Q : Value → Shared → Prop} {E : Value → Shared → Prop}

theorem track_frz {g₀ : Heap} {g : Gh} {fr : List Fm} {σ : List TO} {h h' : Heap} {a b : Addr} {o : Obj} {n : Nat} (I : Inv g₀ g fr σ h) (e : h'.get? b = some o) (hn : h.get? b = none) (hb : b ≠ a) : ((g.grown fr h').track n a).frz b = some o := by
  show (if b = a then none else (g.grown fr h').frz b) = some o
  rw [if_neg hb]
  exact I.grown_new e hn

theorem exc_made {C : Addr} {x : List Nat} {a : Int} {u v : Value} {A : Around} {fr' : List Fm} {g' : Gh} {Q : Value → Shared → Prop} {E : Value → Shared → Prop} {s : Shared} (O : TopOk K p loose mean mg mb g₀) (X : ExcOk K C) (hroom : A.depth + 1 < recursionLimit) (I : Inv g₀ g' fr' σ s.heap) (hz : g₀.objs.size ≤ s.heap.objs.size)
    (hu : VR g' (.str x) u) (hv : VR g' (.int a) v)
    (q : ∀ e g₁ h₁ tk, g'.le g₁ → Inv g₀ g₁ fr' (σ ++ [.exc C a .fresh]) h₁ → g₁.loc σ.length = some e → ExNew h₁ e → Q (.ref e) { s with heap := h₁, toks := tk }) : wpAny (model prog w) A (call (.ref C) [u, v]) Q E s := by
  obtain ⟨t0, rfl⟩ := hv
  refine exc_call O (fun b o z => I.fz _ _ (I.base _ _ z)) X hroom fun h' e dx t h1 t1 h2 t2 tk n ne ndx le nedx he hdx kp => ?_
  have fdx := track_frz (n := σ.length) I hdx ndx (Ne.symm nedx)
  have hT := I.track (t := .exc C a .fresh) kp ne (Nat.le_trans hz le) ⟨dx, _, _, h1, t1, u, h2, t2, t0, n, he, fdx, rfl, rfl, rfl⟩
  exact q e _ h' tk hT.1 hT.2 (by simp [Gh.track]) ⟨_, _, he, rfl, rfl, rfl⟩

theorem callC_ok {a : Addr} {as : List AV} {us : List Value} (O : TopOk K p loose mean mg mb g₀) (X : ClsOk K) (hx : callC σ a as = some (r, σ')) (ha : VRs g as us) (st : St g₀ c fr d m σ g mm s.heap) (fin : Fin VR g₀ c fr mm r σ' g s Q E) :
    (∃ k, Looks (model prog w) s.heap (keeperOf (.ref a)) k) ∧ wpS (model prog w) c.A (call (.ref a) us) Q E s := by
  have kp : ∀ b o, g₀.get? b = some o → s.heap.get? b = some o := fun b o e => st.I.fz _ _ (st.I.base _ _ e)
  have X0 : K.In s.heap := O.X.keeps kp
  have room := st.R.1
  unfold callC at hx
  split at hx
  · rename_i e
    subst e
    refine ⟨let ⟨k, _, h⟩ := looks_keep (M := model prog w) X.init.keep X0; ⟨k, h⟩, ?_⟩
    split at hx
    · rename_i b
      simp only [Option.some.injEq, Prod.mk.injEq] at hx
      obtain ⟨rfl, rfl⟩ := hx
      obtain ⟨u, rfl, t0, rfl⟩ := ha.one
      refine wpS.of (wire_call X.init X0 (O.T.nolimit.keeps kp) (room_e st.R.1) fun h' x dx h1 t1 h2 t2 tz tk n nx ndx le nxd hx hdx k => ?_)
      have fx := track_frz (n := σ.length) st.I hx nx nxd
      have hT := st.I.track (t := .wire b 0) k ndx (Nat.le_trans st.I.size_le le) ⟨h1, t1, t0, h2, t2, tz, n, hdx⟩
      exact fin.ok _ rfl _ _ h' tk hT.1 hT.2 ⟨x, dx, rfl, fx, by simp [Gh.track]⟩
    · cases hx
  · split at hx
    · rename_i hC
      refine ⟨let ⟨k, _, h⟩ := looks_keep (M := model prog w) (X.exc a hC).keep X0; ⟨k, h⟩, ?_⟩
      split at hx
      · rename_i x i
        simp only [mk, Option.some.injEq, Prod.mk.injEq] at hx
        obtain ⟨rfl, rfl⟩ := hx
        obtain ⟨u, v, rfl, hu, hv⟩ := ha.two
        refine wpS.of (exc_made (x := x) (a := i) O (X.exc a hC) (room_e st.R.1) st.I st.I.size_le hu hv fun e g₁ h₁ tk le I l _ => ?_)
        exact fin.ok _ rfl _ g₁ h₁ tk le I ⟨e, rfl, l⟩
      · cases hx
    · cases hx

theorem call_ok {FT : Addr → Option Fn} {n : Nat} (O : TopOk K p loose mean mg mb g₀) (X : ClsOk K) (C : CxOk c) (hy : FnOk prog w g₀ c fr d m (fun a as σ => evFn K FT n d a as σ)) : CallOk prog w g₀ c fr d m (fun f as σ => evCall K FT (n + 1) d f as σ) := by
  intro f as u us σ r σ' g mm s Q E hx hf ha st fin
  dsimp only at hx
  rw [evCall_s] at hx
  split at hx
  · rename_i a
    obtain rfl : u = .ref a := hf
    split at hx
    · exact callC_ok O X hx ha st fin
    · exact hy hx ha st fin
  · rename_i f' _
    obtain rfl : u = f' := hf
    exact callB_ok C hx ha st fin
  · cases hx
end
end Mine
end

section
open PySem PySem.W PySem.Calls PyProof.Rows
set_option maxRecDepth 100000
set_option genInjectivity false
namespace Mine

inductive Src where
  | str (x : List Nat) (t : Tok)
  | bytes (b : List UInt8) (t : Tok)
  | tup (a : Addr) (items : Array Value)
  | range (n : Nat)
  | lst (a : Addr) (items : Array Value)

noncomputable def itP : Src → Nat → Obj → Prop
  | .str x t, i, o => o.cls = .type "str_ascii_iterator" ∧ o.data = .fields #[.str ⟨x.toArray⟩ t, .int i 0]
  | .bytes b t, i, o => o.cls = .type "bytes_iterator" ∧ o.data = .fields #[.bytes b.toArray t, .int i 0]
  | .tup a _, i, o => o.cls = .type "tuple_iterator" ∧ o.data = .fields #[.ref a, .int i 0]
  | .lst a _, i, o => o.cls = .type "list_iterator" ∧ o.data = .fields #[.ref a, .int i 0]
  | .range n, i, o => o = { cls := .type "range_iterator", dict := none, data := .fields #[rawInt i, rawInt ((n : Int) - i), rawInt 1], slots := #[] }

theorem itP_range {n i : Nat} : itP (.range n) (i + 1) { cls := .type "range_iterator", dict := none, data := .fields #[rawInt ((i : Int) + 1), rawInt ((n : Int) - i - 1), rawInt 1], slots := #[] } := by
  simp only [itP]
  rw [show ((i + 1 : Nat) : Int) = (i : Int) + 1 by omega, show (n : Int) - ((i : Int) + 1) = (n : Int) - i - 1 by omega]

noncomputable def SrcOk (g : Gh) (vs : List AV) : Src → Prop
  | .str x _ => ascii x = true ∧ vs = x.map fun c => .str [c]
  | .bytes b _ => vs = b.map fun c => .int (c.toNat : Int)
  | .tup a items => (∃ n, g.frz a = some (tupObj items n)) ∧ VRs g vs items.toList
  | .lst a items => (∃ o n, g.frz a = some o ∧ o.cls = .type "list" ∧ o.data = .seq items n) ∧ VRs g vs items.toList
  | .range n => vs = (List.range n).map fun i => .int (Int.ofNat i)
theorem SrcOk.mono {g g' : Gh} {vs : List AV} (k : g.le g') : ∀ {src : Src}, SrcOk g vs src → SrcOk g' vs src
  | .str _ _, h => h
  | .bytes _ _, h => h
  | .tup _ _, ⟨⟨n, e⟩, r⟩ => ⟨⟨n, k.1 _ _ e⟩, r.mono k⟩
  | .lst _ _, ⟨⟨o, n, e, z⟩, r⟩ => ⟨⟨o, n, k.1 _ _ e, z⟩, r.mono k⟩
  | .range _, h => h

section
variable {g₀ : Heap} {g : Gh} {fr : List Fm} {σ : List TO} {h h' : Heap}
theorem Inv.drop {p : Fm} (I : Inv g₀ g (p :: fr) σ h) (k : ∀ b o, b ≠ p.1 → h.get? b = some o → h'.get? b = some o) : g.le (g.grown fr h') ∧ Inv g₀ (g.grown fr h') fr σ h' := by
  have J := I.pop0
  have np : g.frz p.1 = none := (I.fs p (.head _)).2.1
  have kz : ∀ b o, g.frz b = some o → h'.get? b = some o := fun b o e => k b o (fun q => by rw [q, np] at e; cases e) (I.fz b o e)
  have le : g.le (g.grown fr h') := by
    refine ⟨fun b o e => ?_, fun _ _ e => e⟩
    have : ¬ g.mut fr b := fun m => by rw [J.mut_none m] at e; cases e
    simp only [Gh.grown, this, if_false]
    exact kz b o e
  have nf : ∀ q ∈ fr, q.1 ≠ p.1 := fun q hq e => (List.nodup_cons.mp I.nd).1 (List.mem_map.mpr ⟨q, hq, e⟩)
  refine ⟨le, fun b o e => le.1 b o (I.base b o e), fun b o e => ?_, fun q hq => ?_, J.nd, fun i t e => ?_, fun i a l => ?_, I.inj⟩
  · simp only [Gh.grown] at e
    split at e
    · cases e
    · exact e
  · obtain ⟨⟨o, ho, z⟩, r⟩ := J.fs q hq
    exact ⟨⟨o, k _ _ (nf q hq) ho, z⟩, by simp [Gh.grown, Gh.mut, List.mem_map_of_mem hq], r.2⟩
  · obtain ⟨a, l, r⟩ := I.so i t e
    refine ⟨a, l, r.mono le fun o z => k _ _ (fun q => ?_) z⟩
    exact (I.lo i a l).2.2.1 (q ▸ .head _)
  · refine ⟨(J.lo i a l).1, ?_, (J.lo i a l).2.2⟩
    have : g.mut fr a := .inr ⟨i, l⟩
    simp [Gh.grown, this]
theorem Inv.turn {a : Addr} {P P' : Obj → Prop} (I : Inv g₀ g ((a, P) :: fr) σ h) (hn : ∃ o, h'.get? a = some o ∧ P' o) (hs : Heap.SameBut a h h') : Inv g₀ g ((a, P') :: fr) σ h' := I.store hn hs
end

section
variable {prog : Program} {w : World} {A : Around} {E : Value → Shared → Prop} {s : Shared} {g₀ : Heap} {g : Gh} {fr : List Fm} {σ : List TO} {vs : List AV}

theorem it_item {it : Addr} {src : Src} {i : Nat} {v : AV} {Q : Option Value → Shared → Prop} (I : Inv g₀ g ((it, itP src i) :: fr) σ s.heap) (S : SrcOk g vs src) (hv : vs[i]? = some v)
    (q : ∀ u h' tk, Inv g₀ g ((it, itP src (i + 1)) :: fr) σ h' → VR g v u → Q (some u) { s with heap := h', toks := tk }) : wpAny (model prog w) A (pyNext (.ref it)) Q E s := by
  obtain ⟨⟨o, ho, hP⟩, _⟩ := I.fs _ (.head _)
  cases src with
  | str x t =>
    obtain ⟨ha, rfl⟩ := S
    rw [List.getElem?_map] at hv
    simp only [Option.map_eq_some_iff] at hv
    obtain ⟨c, hc, rfl⟩ := hv
    refine wpAny_pyNext_ascii_item ⟨o, ho, hP.1, hP.2⟩ (c := c) (by simpa using hc) fun h' hit hs => ?_
    obtain ⟨o', ho', h1, h2⟩ := hit
    exact q _ _ _ (I.turn ⟨o', ho', h1, h2⟩ hs) ⟨_, rfl⟩
  | bytes b t =>
    obtain rfl := S
    rw [List.getElem?_map] at hv
    simp only [Option.map_eq_some_iff] at hv
    obtain ⟨c, hc, rfl⟩ := hv
    refine KBw.next_item (b := b.toArray) (t := t) (i := i) (c := c) ⟨o, ho, hP.1, hP.2⟩ (by simpa using hc) fun h' hit hs => ?_
    obtain ⟨o', ho', h1, h2⟩ := hit
    exact q _ _ _ (I.turn ⟨o', ho', h1, h2⟩ hs) ⟨_, rfl⟩
  | tup a items =>
    obtain ⟨⟨n, hf⟩, hr⟩ := S
    obtain ⟨u, hu, ru⟩ := hr.get hv
    refine wpAny_pyNext_tuple_item (t := a) (i := i) (items := items) (x := u) ⟨o, ho, hP.1, hP.2⟩ ⟨_, I.fz _ _ hf, rfl, n, rfl⟩ (by rw [← Array.getElem?_toList]; exact hu) fun h' hit hs => ?_
    obtain ⟨o', ho', h1, h2⟩ := hit
    exact q _ _ s.toks (I.turn ⟨o', ho', h1, h2⟩ hs) ru
  | lst a items =>
    obtain ⟨⟨oo, n, hf, hc, hd⟩, hr⟩ := S
    obtain ⟨u, hu, ru⟩ := hr.get hv
    refine wpAny_pyNext_list_item (l := a) (i := i) (items := items) (x := u) ⟨o, ho, hP.1, hP.2⟩ ⟨_, I.fz _ _ hf, hc, n, hd⟩ (by rw [← Array.getElem?_toList]; exact hu) fun h' hit hs => ?_
    obtain ⟨o', ho', h1, h2⟩ := hit
    exact q _ _ s.toks (I.turn ⟨o', ho', h1, h2⟩ hs) ru
  | range n =>
    obtain rfl := S
    have hi : i < n := by simpa using (List.getElem?_eq_some_iff.mp hv).1
    rw [List.getElem?_map, List.getElem?_range hi] at hv
    cases hv
    refine wpAny_pyNext_range_item (x := i) (left := (n : Int) - i) (step := 1) (by show s.heap.get? it = _; rw [ho, show o = _ from hP]) (by omega) fun h' hit hs => ?_
    exact q _ _ _ (I.turn (P' := itP (.range n) (i + 1)) ⟨_, hit, itP_range⟩ hs) ⟨_, rfl⟩
theorem it_end {it : Addr} {src : Src} {i : Nat} {Q : Option Value → Shared → Prop} (hh : A.handled = none) (I : Inv g₀ g ((it, itP src i) :: fr) σ s.heap) (S : SrcOk g vs src) (hv : vs[i]? = none)
    (q : ∀ g' h', g.le g' → Inv g₀ g' fr σ h' → Q none { s with heap := h' }) : wpAny (model prog w) A (pyNext (.ref it)) Q E s := by
  obtain ⟨⟨o, ho, hP⟩, _⟩ := I.fs _ (.head _)
  have fin : ∀ h', Heap.ExtBut it s.heap h' → Q none { s with heap := h' } := fun h' he => by
    obtain ⟨le, J⟩ := I.drop (h' := h') fun b o hb z => he b o hb z
    exact q _ h' le J
  cases src with
  | str x t =>
    obtain ⟨ha, rfl⟩ := S
    exact wpAny_pyNext_ascii_end hh ⟨o, ho, hP.1, hP.2⟩ (by simpa using hv) fin
  | bytes b t =>
    obtain rfl := S
    exact KBw.next_end hh (b := b.toArray) (t := t) (i := i) ⟨o, ho, hP.1, hP.2⟩ (by simpa using hv) fin
  | tup a items =>
    obtain ⟨⟨n, hf⟩, hr⟩ := S
    have hl := hr.length
    exact wpAny_pyNext_tuple_end hh (t := a) (i := i) (items := items) ⟨o, ho, hP.1, hP.2⟩ ⟨_, I.fz _ _ hf, rfl, n, rfl⟩ (by simp only [List.getElem?_eq_none_iff] at hv; simp; rw [Array.length_toList] at hl; omega) fin
  | lst a items =>
    obtain ⟨⟨oo, n, hf, hc, hd⟩, hr⟩ := S
    have hl := hr.length
    exact wpAny_pyNext_list_end hh (l := a) (i := i) (items := items) ⟨o, ho, hP.1, hP.2⟩ ⟨_, I.fz _ _ hf, hc, n, hd⟩ (by simp only [List.getElem?_eq_none_iff] at hv; simp; rw [Array.length_toList] at hl; omega) fin
  | range n =>
    obtain rfl := S
    have hi : n ≤ i := by simpa using hv
    exact wpAny_pyNext_range_end hh (x := i) (left := (n : Int) - i) (step := 1) (by show s.heap.get? it = _; rw [ho, show o = _ from hP]) (by omega) fin
theorem it_self {it : Addr} {src : Src} {i : Nat} {Q : Value → Shared → Prop} (I : Inv g₀ g ((it, itP src i) :: fr) σ s.heap) (q : Q (.ref it) s) : wpAny (model prog w) A (pyIter (.ref it)) Q E s := by
  obtain ⟨⟨o, ho, hP⟩, _⟩ := I.fs _ (.head _)
  cases src with
  | str x t => exact wpAny_pyIter_striter_ascii ⟨o, ho, hP.1, hP.2⟩ q
  | bytes b t => exact KBw.pyIter_self (b := b.toArray) (t := t) (i := i) ⟨o, ho, hP.1, hP.2⟩ q
  | tup a items => exact wpAny_pyIter_tupleiter (t := a) (i := i) ⟨o, ho, hP.1, hP.2⟩ q
  | lst a items => exact wpAny_pyIter_listiter (l := a) (i := i) ⟨o, ho, hP.1, hP.2⟩ q
  | range n => exact wpAny_pyIter_rangeiter (x := i) (left := (n : Int) - i) (step := 1) (by show s.heap.get? it = _; rw [ho, show o = _ from hP]) q

theorem it_start {K : Frag} {a : AV} {u : Value} {p : Fm} {Q : Value → Shared → Prop} (X : K.In g₀) (I : Inv g₀ g (p :: fr) σ s.heap) (hx : iterA K σ a = some vs) (hu : VR g a u)
    (q : ∀ it src h', SrcOk g vs src → Inv g₀ g ((it, itP src 0) :: p :: fr) σ h' → Q (.ref it) { s with heap := h' }) : wpAny (model prog w) A (pyIter u) Q E s := by
  have push : ∀ o : Obj, ∀ b o', s.heap.get? b = some o' → (s.heap.push o).get? b = some o' := fun o b o' z => Heap.get?_push_of_some _ z
  have tup : ∀ {a' : AV}, tupItems K a' = some vs → VR g a' u → wpAny (model prog w) A (pyIter u) Q E s := fun e hu => by
    obtain ⟨x, items, n, rfl, f, z⟩ := tup_at X I hu e
    refine wpAny_pyIter_tuple ⟨_, I.fz _ _ f, rfl, n, rfl⟩ ?_
    exact q s.heap.objs.size (.tup x items) _ ⟨⟨n, f⟩, z⟩ (I.push (push _) (get_size _) I.size_le ⟨_, Heap.get?_push_size _ rfl, rfl, rfl⟩)
  unfold iterA at hx
  split at hx
  · rename_i x
    obtain ⟨t, rfl⟩ := hu
    split at hx
    · rename_i ha
      cases hx
      refine wpAny_pyIter_ascii (by simpa [ascii] using ha) ?_
      exact q s.heap.objs.size (.str x t) _ ⟨ha, rfl⟩ (I.push (push _) (get_size _) I.size_le ⟨_, Heap.get?_push_size _ rfl, rfl, rfl⟩)
    · cases hx
  · rename_i b
    obtain ⟨t, rfl⟩ := hu
    cases hx
    refine KBw.pyIter_bytes ?_
    exact q s.heap.objs.size (.bytes b t) _ rfl (I.push (push _) (get_size _) I.size_le ⟨_, Heap.get?_push_size _ rfl, rfl, rfl⟩)
  · obtain ⟨a, o, items, n, rfl, f, hc, hd, z⟩ := hu
    cases hx
    refine wpAny_pyIter_list ⟨o, I.fz _ _ f, hc, n, hd⟩ ?_
    exact q s.heap.objs.size (.lst a items) _ ⟨⟨o, n, f, hc, hd⟩, z⟩ (I.push (push _) (get_size _) I.size_le ⟨_, Heap.get?_push_size _ rfl, rfl, rfl⟩)
  · exact tup hx hu
end
end Mine
end

section
open PySem PySem.W PySem.Calls PyProof.Rows
set_option maxRecDepth 100000
namespace Mine

theorem Inv.perm {g₀ : Heap} {g : Gh} {fr fr' : List Fm} {σ : List TO} {h : Heap} (I : Inv g₀ g fr σ h) (p : fr.Perm fr') : Inv g₀ g fr' σ h where
  base := I.base
  fz := I.fz
  fs := fun q hq => I.fs q (p.mem_iff.mpr hq)
  nd := (p.map (·.1)).nodup_iff.mp I.nd
  so := I.so
  lo := fun i a l => let ⟨x1, x2, x3, x4⟩ := I.lo i a l; ⟨x1, x2, fun m => x3 ((p.map (·.1)).mem_iff.mpr m), x4⟩
  inj := I.inj
theorem FrIn.sub {fr fr' : List Fm} {envs : List Env} (x : FrIn fr envs) (k : ∀ p ∈ fr, p ∈ fr') : FrIn fr' envs := fun env he =>
  let ⟨hk, L, P, hf, hm, hs⟩ := x env he; ⟨hk, L, P, hf, k _ hm, hs⟩

theorem compOk_parts {sc : Scope} {x : Str} (h : compOk sc x = true) : sc.kind = .function ∧ (∀ y ∈ sc.names, y.2 ≠ .free) ∧ (∀ y ∈ sc.names, y.2 ≠ .cell) ∧ (∀ y ∈ sc.names, y.2 = .local → sc.names.lookup y.1 = some .local) ∧ sc.names.lookup x = some .local := by
  unfold compOk at h
  simp only [Bool.and_eq_true, beq_iff_eq, List.all_eq_true, bne_iff_ne, ne_eq, Bool.or_eq_true] at h
  obtain ⟨⟨hk, h2⟩, hx⟩ := h
  refine ⟨hk, fun y hy => (h2 y hy).1.1, fun y hy => (h2 y hy).1.2, fun y hy e => ?_, hx⟩
  rcases (h2 y hy).2 with z | z
  · exact absurd e z
  · exact z

theorem evComp_ok {K : Frag} {FT : Addr → Option Fn} {d : Nat} {el : IE} {t : Option IE} : ∀ {n : Nat} {vs : List AV} {σ σ' : List TO} {r : Ex (List AV)}, evComp K FT n d el t vs σ = some (r, σ') → ∃ xs, r = .ok xs
  | 0, _, _, _, _, h => by simp [evComp_0] at h
  | n + 1, [], _, _, _, h => by simp only [evComp_nil] at h; obtain ⟨rfl, _⟩ := ret_some h; exact ⟨_, rfl⟩
  | n + 1, v :: vs, σ, σ', r, h => by
    rw [evComp_cons] at h
    split at h
    · split at h
      · rcases bnd_split h with ⟨a, σ₁, h1, h2⟩ | ⟨i, h1, rfl⟩
        · obtain ⟨rfl, _⟩ := ret_some h2; exact ⟨_, rfl⟩
        · obtain ⟨xs, e⟩ := evComp_ok h1; cases e
      · cases h
    · exact evComp_ok h
    · cases h

section
variable {M : Model} {A : Around} {E : Value → Shared → Prop} {s : Shared}
theorem tests_noneS {env : Env} {Q : Bool → Shared → Prop} (h : Q true s) : wpS M A (forIn ([] : List Expr) true fun c r => if r = true then do let ok ← isTrue c env (eval c env); pure (ForInStep.yield ok) else pure (ForInStep.yield r)) Q E s := wpS_pure h
theorem tests_oneS {env : Env} {c : Expr} {Q : Bool → Shared → Prop} (h : wpS M A (isTrue c env (eval c env)) Q E s) :
    wpS M A (forIn [c] true fun c r => if r = true then do let ok ← isTrue c env (eval c env); pure (ForInStep.yield ok) else pure (ForInStep.yield r)) Q E s := by
  simp only [List.forIn_cons, List.forIn_nil, if_true]
  exact wpS_bind (wpS_bind (wpS_q h fun b s' hb => wpS_pure (wpS_pure hb)))
end

theorem append_at {prog : Program} {w : World} {A : Around} {E : Value → Shared → Prop} {s : Shared} {l : Addr} {items : Array Value} {n : Nat} {x : Value} {Q : Value → Shared → Prop} (hl : s.heap.get? l = some (lstObj items n)) (hz : items.size ≤ sizeLine)
    (hQ : ∀ h' n', h'.get? l = some (lstObj (items.push x) n') → Heap.SameBut l s.heap h' → Q .none { s with heap := h' }) : wpAny (model prog w) A (call (.builtin "list.append") [.ref l, x]) Q E s := by
  have hL := isList_of hl
  refine wpAny_call_entry slot_list_append hL.typeIs entry_list_append ?_ (args_list_append _ _)
  show wpAny _ _ (updateSeq l (·.push x) >>= fun _ => PySem.ret .none) _ _ s
  refine wpAny_bind ?_
  obtain ⟨n', e⟩ : ∃ n', Obj.mapSeq (·.push x) (lstObj items n) = lstObj (items.push x) n' := ⟨_, rfl⟩
  refine wpAny_updateSeq hl rfl (wpAny_pure ⟨.none, rfl, hQ _ n' ?_ (Heap.SameBut.update ..)⟩)
  rw [← e]
  exact Heap.get?_update_self _ hl rfl

noncomputable abbrev compCx (c : Cx) (csc : Scope) (C : Addr) (x : Str) : Cx := ⟨c.A, compEnv csc C c.env, C, c.Lf, [x], csc⟩

section
variable {prog : Program} {w : World} {K : Frag} {FT : Addr → Option Fn} {g₀ : Heap} {c : Cx} {fr : List Fm} {d : Nat} {mm : Str → Option Value} {s : Shared}

structure CompSubs (prog : Program) (w : World) (K : Frag) (FT : Addr → Option Fn) (g₀ : Heap) (c : Cx) (d : Nat) (csc : Scope) (x : Str) (elt : Expr) (ifs : List Expr) (el : IE) (t : Option IE) (n : Nat) : Prop where
  el : ∀ C fr' m k, k < n → Sub prog w VR g₀ (compCx c csc C x) fr' d m (eval elt (compEnv csc C c.env)) (fun σ => evE K FT k d m el σ)
  te : (ifs = [] ∧ t = none) ∨ ∃ e t', ifs = [e] ∧ t = some t' ∧ ∀ C fr' m k, k < n → Sub prog w BR g₀ (compCx c csc C x) fr' d m (isTrue e (compEnv csc C c.env) (eval e (compEnv csc C c.env))) (fun σ => evT K FT k d m t' σ)

theorem comp_loop {csc : Scope} {x : Str} {px pos : Pos} {elt iter : Expr} {ifs : List Expr} {el : IE} {t : Option IE} {N : Nat} {C D it : Addr} {src : Src} {vs : List AV} {R : Result → Shared → Prop}
    (hh : c.A.handled = none) (hk : csc.kind = .function) (hx : csc.names.lookup x = some .local) (S : CompSubs prog w K FT g₀ c d csc x elt ifs el t N) (F : ∃ envs, c.A.frames = some envs ∧ FrIn ((c.L, frmP mm) :: fr) envs) (hR : Room c.A d) :
    ∀ (n : Nat), n ≤ N → ∀ (rem : List AV) (i : Nat) (σ σ' : List TO) (xs acc : List AV), evComp K FT n d el t rem σ = some (.ok xs, σ') → vs.drop i = rem → acc.length + xs.length ≤ 100000 →
      ∀ (g : Gh) (h : Heap) (tk : Nat) (items : Array Value) (na : Nat) (mmC : Str → Option Value), Inv g₀ g ((C, frmP mmC) :: (D, justP (lstObj items na)) :: (it, itP src i) :: (c.L, frmP mm) :: fr) σ h → SrcOk g vs src → VRs g acc items.toList →
        (∀ g' h' tk' items' n' mmC', g.le g' → Inv g₀ g' ((C, frmP mmC') :: (D, justP (lstObj items' n')) :: (c.L, frmP mm) :: fr) σ' h' → VRs g' (acc ++ xs) items'.toList → R (.ok .next) { s with heap := h', toks := tk' }) →
        codeS (model prog w) c.A (.compLoop (.ListComp elt [⟨.Name x px, iter, ifs, 0⟩] csc pos) 0 (.ref it) (.ref D) (compEnv csc C c.env)) R { s with heap := h, toks := tk } := by
  intro n
  induction n with
  | zero => intro _ rem i σ σ' xs acc hx'; simp [evComp_0] at hx'
  | succ n ih =>
    intro hN rem i σ σ' xs acc hev hdrop hlen g h tk items na mmC I hS hacc fin
    refine codeS_of_tree rfl ?_
    rw [Around.under_of_weight rfl]
    show wpS _ _ ((compTurn (.ListComp elt [⟨.Name x px, iter, ifs, 0⟩] csc pos) 0 (.ref it) (.ref D) (compEnv csc C c.env)).onRaise (fun x => do noteFrame x (compEnv csc C c.env); theTreesLotGoes x)) _ _ _
    refine wpS_onRaise (wpS_mono (Q := fun fin s' => match fin with | .done f => R (.ok f) s' | .again c' => c'.quiet = true ∧ codeS (model prog w) c.A c' R s') (E := fun _ _ => False) ?_ (fun _ _ z => z) fun _ _ z => z.elim)
    rw [compTurn_list]
    refine wpS_stand ?_
    have Iit : Inv g₀ g ((it, itP src i) :: (C, frmP mmC) :: (D, justP (lstObj items na)) :: (c.L, frmP mm) :: fr) σ h := I.perm (((List.Perm.swap _ _ _).cons _).trans (List.Perm.swap _ _ _))
    cases rem with
    | nil =>
      simp only [evComp_nil] at hev
      obtain ⟨e, rfl⟩ := ret_some hev
      cases e
      refine wpS_bind (wpS.of (it_end (s := { s with heap := h, toks := tk }) hh Iit hS (by rw [List.drop_eq_nil_iff] at hdrop; exact List.getElem?_eq_none hdrop) fun g' h' le I' => ?_))
      exact wpS_pure (fin g' h' tk items na mmC le I' (by simpa using hacc.mono le))
    | cons v rem =>
      have hv : vs[i]? = some v := by
        have := congrArg (fun l => l[0]?) hdrop
        simpa using this
      have hdrop' : vs.drop (i + 1) = rem := by rw [← List.drop_drop, hdrop]; rfl
      refine wpS_bind (wpS.of (it_item (s := { s with heap := h, toks := tk }) Iit hS hv fun u h1 tk1 I1 hu => ?_))
      refine wpS_bind (wpS.of (wpAny_of_eq rfl ?_))
      -- the name
      have I1' : Inv g₀ g ((C, frmP mmC) :: (D, justP (lstObj items na)) :: (it, itP src (i + 1)) :: (c.L, frmP mm) :: fr) σ h1 := I1.perm ((List.Perm.swap _ _ _).trans ((List.Perm.swap _ _ _).cons _))
      have hns := frmP.ns (I1'.fs _ (.head _)).1
      refine wpS_bind (wpS.of (wpAny_assign_Name (wpAny_storeName_local (env := compEnv csc C c.env) hx hns (fun h2 hn2 hs2 => ?_) (by simp [compEnv, hk]))))
      obtain ⟨mm2, hm2, I2⟩ : ∃ mm2 : Str → Option Value, mm2 x = some u ∧ Inv g₀ g ((C, frmP mm2) :: (D, justP (lstObj items na)) :: (it, itP src (i + 1)) :: (c.L, frmP mm) :: fr) σ h2 := ⟨_, by simp, I1'.store (frmP.of hn2) hs2⟩
      clear hn2 I1' Iit I I1
      obtain ⟨envs, hfr, hFr⟩ := F
      have st2 : ∀ σ1 g3 h3, g.le g3 → Inv g₀ g3 ((C, frmP mm2) :: (D, justP (lstObj items na)) :: (it, itP src (i + 1)) :: (c.L, frmP mm) :: fr) σ1 h3 → St g₀ (compCx c csc C x) ((D, justP (lstObj items na)) :: (it, itP src (i + 1)) :: (c.L, frmP mm) :: fr) d [some v] σ1 g3 mm2 h3 := fun σ1 g3 h3 le I3 => by
        refine ⟨I3, fun j y v' hy hv' => ?_, ⟨envs, hfr, hFr.sub fun p hp => .tail _ (.tail _ (.tail _ hp))⟩, hR⟩
        cases j with
        | zero => cases hy; cases hv'; exact ⟨u, hm2, hu.mono le⟩
        | succ j => cases hy
      rw [evComp_cons] at hev
      have cont : ∀ (b : Bool) (σ1 : List TO) g3 h3 tk3, evTO K FT n d [some v] t σ = some (.ok b, σ1) → g.le g3 → Inv g₀ g3 ((C, frmP mm2) :: (D, justP (lstObj items na)) :: (it, itP src (i + 1)) :: (c.L, frmP mm) :: fr) σ1 h3 →
          wpS (model prog w) c.A (if b = true then (do
            let v ← eval elt (compEnv csc C c.env)
            let _ ← call (.builtin "list.append") [.ref D, v]
            pure ()) >>= fun _ => again (.compLoop (.ListComp elt [⟨.Name x px, iter, ifs, 0⟩] csc pos) 0 (.ref it) (.ref D) (compEnv csc C c.env))
            else again (.compLoop (.ListComp elt [⟨.Name x px, iter, ifs, 0⟩] csc pos) 0 (.ref it) (.ref D) (compEnv csc C c.env)))
            (fun fin s' => match fin with | .done f => R (.ok f) s' | .again c' => c'.quiet = true ∧ codeS (model prog w) c.A c' R s') (fun _ _ => False) { s with heap := h3, toks := tk3 } := by
        intro b σ1 g3 h3 tk3 hT le3 I3
        rw [hT] at hev
        cases b with
        | false =>
          dsimp only at hev
          refine wpS_pure ⟨rfl, ?_⟩
          exact ih (by first | exact Nat.le_succ _ | exact Nat.le_refl _ | exact Nat.le_of_lt_succ hk | exact Nat.le_of_lt hk | exact hk | exact Nat.le_of_succ_le hN | exact Nat.lt_of_succ_le hN | exact Nat.le_of_lt hN | exact hN | exact Nat.le_succ_of_le hk | omega) rem (i + 1) σ1 σ' xs acc hev hdrop' hlen g3 h3 tk3 items na mm2 I3 (hS.mono le3) (hacc.mono le3) fun g' h' tk' items' n' mmC' le' I' hacc' => fin g' h' tk' items' n' mmC' (le3.trans le') I' hacc'
        | true =>
          dsimp only at hev
          split at hev
          · rename_i y σ2 hE
            rcases bnd_split hev with ⟨ys, σ3, hys, hr⟩ | ⟨_, _, q⟩
            · obtain ⟨q, rfl⟩ := ret_some hr
              cases q
              refine wpS_bind (wpS_bind (S.el C _ [some v] n (by first | exact Nat.le_succ _ | exact Nat.le_refl _ | exact Nat.le_of_lt_succ hk | exact Nat.le_of_lt hk | exact hk | exact Nat.le_of_succ_le hN | exact Nat.lt_of_succ_le hN | exact Nat.le_of_lt hN | exact hN | exact Nat.le_succ_of_le hk | omega) hE (st2 σ1 g3 h3 le3 I3) ⟨fun a q v' g4 h4 tk4 le4 I4 hv4 => ?_, fun _ q => nomatch q⟩))
              cases q
              have I4' : Inv g₀ g4 ((D, justP (lstObj items na)) :: (C, frmP mm2) :: (it, itP src (i + 1)) :: (c.L, frmP mm) :: fr) σ2 h4 := I4.perm (List.Perm.swap _ _ _)
              refine cont fun PP kq => ?_
              obtain ⟨⟨oD, hoD, hq⟩, _⟩ := I4'.fs _ (.head _)
              refine kq ?_
              have hal := hacc.length
              rw [Array.length_toList] at hal
              simp only [List.length_cons] at hlen
              refine wpS_bind (wpS.of (append_at (s := { s with heap := h4, toks := tk4 }) (by show h4.get? D = _; rw [hoD, show oD = _ from hq]) (by rw [sizeLine_eq]; omega) fun h5 n5 hl5 hs5 => wpS_pure ?_))
              have I5 := I4'.turn (P' := justP (lstObj (items.push v') n5)) ⟨_, hl5, rfl⟩ hs5
              refine wpS_pure ⟨rfl, ?_⟩
              refine ih (by first | exact Nat.le_succ _ | exact Nat.le_refl _ | exact Nat.le_of_lt_succ hk | exact Nat.le_of_lt hk | exact hk | exact Nat.le_of_succ_le hN | exact Nat.lt_of_succ_le hN | exact Nat.le_of_lt hN | exact hN | exact Nat.le_succ_of_le hk | omega) rem (i + 1) σ2 σ' ys (acc ++ [y]) hys hdrop' (by simp; omega) g4 h5 tk4 (items.push v') n5 mm2 (I5.perm (List.Perm.swap _ _ _)) (hS.mono (le3.trans le4)) ?_ fun g' h' tk' items' n' mmC' le' I' hacc' => ?_
              · rw [Array.toList_push]
                exact (hacc.mono (le3.trans le4)).append (VRs.cons hv4 VRs.nil)
              · rw [List.append_assoc] at hacc'
                exact fin g' h' tk' items' n' mmC' ((le3.trans le4).trans le') I' hacc'
            · cases q
          · cases hev
      rcases S.te with ⟨rfl, rfl⟩ | ⟨e, t', rfl, rfl, hte⟩
      · refine wpS_bind (tests_noneS ?_)
        cases n with
        | zero => simp [evTO_0] at hev
        | succ n => exact cont true σ g h2 _ (by rw [evTO_none]; rfl) (Gh.le.refl g) I2
      · split at hev <;> try (cases hev)
        all_goals (rename_i σ1 hT; cases n with
        | zero => simp [evTO_0] at hT
        | succ n => 
          have hT' := hT
          rw [evTO_some] at hT'
          refine wpS_bind (tests_oneS (hte C _ [some v] n (by first | exact Nat.le_succ _ | exact Nat.le_refl _ | exact Nat.le_of_lt_succ hk | exact Nat.le_of_lt hk | exact hk | exact Nat.le_of_succ_le hN | exact Nat.lt_of_succ_le hN | exact Nat.le_of_lt hN | exact hN | exact Nat.le_succ_of_le hk | omega) hT' (st2 σ g h2 (Gh.le.refl g) I2) ⟨fun a q b g3 h3 tk3 le3 I3 hb => ?_, fun _ q => nomatch q⟩))
          cases q
          cases hb
          exact cont _ σ1 g3 h3 tk3 hT le3 I3)
end
end Mine
end

section
open PySem PySem.W PySem.Calls PyProof.Rows
set_option maxRecDepth 100000
namespace Mine

section
variable {prog : Program} {w : World} {K : Frag} {FT : Addr → Option Fn} {g₀ : Heap} {c : Cx} {fr : List Fm} {d : Nat} {m : Lo}

theorem wpS_standIf {α : Type} {M : Model} {A : Around} {E : Value → Shared → Prop} {s : Shared} {c : Prop} [Decidable c] {pos : Pos} {k : PUnit → Sem α} {Q : α → Shared → Prop} (h : wpS M A (k ()) Q E s) :
    wpS M A (if c then (standAt pos >>= k) else k ()) Q E s := by
  split
  · exact wpS_bind (wpS_standAt h)
  · exact h
theorem comp_start {csc : Scope} {x : Str} {px pos : Pos} {elt iter : Expr} {ifs : List Expr} {it : Addr} {acc : Value} {env : Env} {A : Around} {R : Result → Shared → Prop} {s : Shared}
    (hs : ∀ {Q : Value → Shared → Prop} {E}, Q (.ref it) s → wpAny (model prog w) A (pyIter (.ref it)) Q E s) (h : codeS (model prog w) A (.compLoop (.ListComp elt [⟨.Name x px, iter, ifs, 0⟩] csc pos) 0 (.ref it) acc env) R s) :
    codeS (model prog w) A (.compStart (.ListComp elt [⟨.Name x px, iter, ifs, 0⟩] csc pos) 0 (.ref it) acc env) R s := by
  refine codeS_of_tree rfl ?_
  rw [Around.under_of_weight rfl]
  show wpS _ _ ((compStart (.ListComp elt [⟨.Name x px, iter, ifs, 0⟩] csc pos) 0 (.ref it) acc env).onRaise (fun x => do noteFrame x env; standAt theWindowsPlace)) _ _ s
  refine wpS_onRaise (wpS_mono (Q := fun fin s' => match fin with | .done f => R (.ok f) s' | .again c' => c'.quiet = true ∧ codeS (model prog w) A c' R s') (E := fun _ _ => False) ?_ (fun _ _ z => z) fun _ _ z => z.elim)
  unfold compStart
  show wpS _ _ (ask >>= _) _ _ s
  refine wpS_bind (wpS.of (wpAny_askSetting ?_))
  have fin : wpS (model prog w) A (again (.compLoop (.ListComp elt [⟨.Name x px, iter, ifs, 0⟩] csc pos) 0 (.ref it) acc env)) (fun fin s' => match fin with | .done f => R (.ok f) s' | .again c' => c'.quiet = true ∧ codeS (model prog w) A c' R s') (fun _ _ => False) s := wpS_pure ⟨rfl, h⟩
  split
  · first
      | exact wpS_bind (wpS_pure (wpS_pure (And.intro rfl h)))
      | exact wpS_pure (And.intro rfl h)
  · refine wpS_bind (wpS.of (wpAny_rule ?_))
    show wpS _ _ (standAt iter.pos >>= _) _ _ s
    exact wpS_stand (wpS_bind (wpS.of (hs fin)))

theorem comp_core {csc : Scope} {x : Str} {px pos pos' : Pos} {elt iter : Expr} {ifs : List Expr} {el : IE} {t : Option IE} {N : Nat} {use : Option (Value → Sem Unit)} {xi : List TO → R AV} {α : Type} {F : List AV → List TO → R α} {σ σ' : List TO} {r : Ex α} {g : Gh} {mm : Str → Option Value} {s : Shared}
    {Q : Value → Shared → Prop} {E : Value → Shared → Prop} (X : K.In g₀) (C : CxOk c) (hc : compOk csc x = true) (hfold : ∀ v, foldedSetIterable iter c.env v = pure v) (S : CompSubs prog w K FT g₀ c d csc x elt ifs el t N) (hi : Sub prog w VR g₀ c fr d m (eval iter c.env) xi)
    (hx : bnd (xi σ) (fun o σ => match iterA K σ o with
      | some vs => bnd (evComp K FT N d el t vs σ) fun vs σ => if AV.frees vs && vs.length ≤ 100000 then F vs σ else none
      | none => none) = some (r, σ')) (st : St g₀ c fr d m σ g mm s.heap)
    (ex : ∀ i, r = .exc i → ∀ e g' h' tk, g.le g' → Inv g₀ g' ((c.L, frmP mm) :: fr) σ' h' → g'.loc i = some e → Rsd σ' i → ExTr g' ((c.L, frmP mm) :: fr) h' e .none → E (.ref e) { s with heap := h', toks := tk })
    (fin : ∀ xs σ₁, F xs σ₁ = some (r, σ') → AV.frees xs = true → xs.length ≤ 100000 → ∀ g' h' tk' D items' n' Ca mmC, g.le g' → Inv g₀ g' ((Ca, frmP mmC) :: (D, justP (lstObj items' n')) :: (c.L, frmP mm) :: fr) σ₁ h' → VRs g' xs items'.toList →
      match use with
      | none => ∀ h'', Inv g₀ g' ((D, justP (lstObj items' n')) :: (c.L, frmP mm) :: fr) σ₁ h'' → Q (.ref D) { s with heap := h'', toks := tk' }
      | some u => wpS (model prog w) c.A (u (.ref D)) (fun _ s' => ∃ mm' h'' tk'', s' = { s with heap := h'', toks := tk'' } ∧ Inv g₀ g' ((Ca, frmP mmC) :: (D, justP (lstObj items' n')) :: (c.L, frmP mm') :: fr) σ₁ h'' ∧
          ∀ h3, Inv g₀ g' ((D, justP (lstObj items' n')) :: (c.L, frmP mm') :: fr) σ₁ h3 → Q .none { s with heap := h3, toks := tk'' }) E { s with heap := h', toks := tk' }) :
    wpS (model prog w) c.A (comprehension (.ListComp elt [⟨.Name x px, iter, ifs, 0⟩] csc pos) csc c.env pos' (newList []) false (eval iter c.env) use) Q E s := by
  obtain ⟨hk, hfree, hcell, hnames, hxl⟩ := compOk_parts hc
  unfold comprehension
  rw [closureFor_none hfree]
  rcases bnd_split hx with ⟨o, σ₁, h1, h2⟩ | ⟨i, h1, rfl⟩
  · refine wpS_bind (hi h1 st ⟨fun o' q u g1 h1 tk1 le1 I1 hu => ?_, fun _ q => nomatch q⟩)
    cases q
    refine wpS_stand ?_
    dsimp only [clausesOf]
    refine wpS_bind (wpS.of (wpAny_of_eq (hfold u) ?_))
    split at h2
    · rename_i vs hvs
      rcases bnd_split h2 with ⟨xs, σ₂, hev, hF⟩ | ⟨i, hev, q⟩
      · split at hF <;> try (cases hF)
        rename_i hlz
        simp only [Bool.and_eq_true, decide_eq_true_eq] at hlz
        obtain ⟨hfr, hlen⟩ := hlz
        refine wpS_bind (wpS_holding (wpS.of (it_start (s := { s with heap := h1, toks := tk1 }) X I1 hvs hu fun it src h2 hS I2 => ?_)))
        refine wpS_standIf (wpS_bind (wpS.of (wpAny_newList ?_ (by simp))))
        have I3 := I2.push (h' := h2.push (lstObj #[] 0)) (m := justP (lstObj #[] 0)) (fun b o e => Heap.get?_push_of_some _ e) (get_size h2) I2.size_le ⟨_, Heap.get?_push_size _ rfl, rfl⟩
        refine wpS_bind (wpS_pure (wpS_bind (wpS.of (wpAny_newFunctionEnv hcell (fun x hx => absurd hx List.not_mem_nil) (fun h4 hns hsb => ?_) hk))))
        dsimp only at hns hsb ⊢
        have I4 := I3.push (h' := h4) (fun b o e => hsb.extBut b o (Nat.ne_of_lt (Heap.lt_size e)) (Heap.get?_push_of_some _ e)) (get_size _) I3.size_le (frmP.of hns)
        rw [map_eq_self (l := csc.names) (fun x hx => by
          obtain ⟨n, k⟩ := x
          have : (k == NameKind.free) = false := by simpa using hfree _ hx
          simp [this])]
        refine wpS_holding (wpS_bind (wpS_attempt (wpS_holding (wpS_run (h := none) ?_ none_bp))))
        show codeS (model prog w) c.A _ _ _
        have ihh := C.hh
        have fr4 : ∃ envs, c.A.frames = some envs ∧ FrIn ((c.L, frmP mm) :: fr) envs := st.F
        have hv : ∀ y ∈ (csc.names.filter fun y => (y.2 == .local || y.2 == .cell) && y.1 != (Str.ofString ".0")), y.2 = .local → Env.kindOf (compEnv csc (h2.push (lstObj #[] 0)).objs.size c.env) y.1 = some .local := fun y hy hl => hnames y (List.mem_filter.mp hy).1 hl
        refine codeS_mono (R := fun r s' => ∃ g' h' tk' items' n' mmC', r = .ok .next ∧ s' = { s with heap := h', toks := tk' } ∧ g.le g' ∧ Inv g₀ g' (((h2.push (lstObj #[] 0)).objs.size, frmP mmC') :: (h2.objs.size, justP (lstObj items' n')) :: (c.L, frmP mm) :: fr) σ₂ h' ∧ VRs g' xs items'.toList) ?_ fun r s' hr => ?_
        · have I4it : Inv g₀ g1 ((it, itP src 0) :: ((h2.push (lstObj #[] 0)).objs.size, frmP _) :: (h2.objs.size, justP (lstObj #[] 0)) :: (c.L, frmP mm) :: fr) σ₁ h4 := I4.perm (((List.Perm.swap _ _ _).cons _).trans (List.Perm.swap _ _ _))
          refine comp_start (env := compEnv csc (h2.push (lstObj #[] 0)).objs.size c.env) (fun hq => it_self I4it hq) ?_
          exact comp_loop (s := s) ihh hk hxl S fr4 st.R N (Nat.le_refl _) vs 0 σ₁ σ₂ xs [] hev rfl (by simpa using hlen) g1 h4 _ #[] 0 _ I4 hS VRs.nil fun g' h' tk' items' n' mmC' le' I' hr => ⟨g', h', tk', items', n', mmC', rfl, rfl, le1.trans le', I', hr⟩
        · obtain ⟨g', h', tk', items', n', mmC', rfl, rfl, le', I', hr⟩ := hr
          have hns' := frmP.ns (I'.fs _ (.head _)).1
          have F := fin xs σ₂ hF hfr hlen g' h' tk' _ items' n' _ mmC' le' I' hr
          cases use with
          | none =>
            refine wpS_bind (wpS_holding (wpS.of (wpAny_comp_letGo (cenv := compEnv csc (h2.push (lstObj #[] 0)).objs.size c.env) hk _ _ mmC' (fun y hy => hv y (List.mem_reverse.mp hy)) hns' fun h'' m' hn' hs' => ?_)))
            exact wpS_pure (F h'' (I'.store (m' := frmP m') (frmP.of hn') hs').pop0)
          | some u =>
            refine wpS_bind (wpS.of (wpAny_rule ?_))
            refine wpS_bind (wpS_holding (wpS_q F fun _ s' z => ?_))
            obtain ⟨mm', h'', tk'', rfl, I'', q⟩ := z
            have hns2 := frmP.ns (I''.fs _ (.head _)).1
            refine wpS_bind (wpS.of (wpAny_comp_letGo (cenv := compEnv csc (h2.push (lstObj #[] 0)).objs.size c.env) hk _ _ mmC' (fun y hy => hv y (List.mem_reverse.mp ?_)) hns2 fun h3 m' hn' hs' => ?_))
            · rcases List.mem_append.mp hy with z | z
              · exact List.mem_of_mem_drop z
              · exact List.mem_of_mem_take z
            · exact wpS_pure (q h3 (I''.store (m' := frmP m') (frmP.of hn') hs').pop0)
      · obtain ⟨_, e⟩ := evComp_ok hev
        cases e
    · cases h2
  · exact wpS_bind (hi h1 st ⟨fun _ q => (nomatch q), fun j q => by cases q; exact ex i rfl⟩)
end
end Mine
end

section
open PySem PySem.W PySem.Calls PyProof.Rows
set_option maxRecDepth 100000
namespace Mine

theorem Inv.adopt {g₀ : Heap} {g : Gh} {fr : List Fm} {σ : List TO} {h : Heap} {a : Addr} {P : Obj → Prop} {t : TO} (I : Inv g₀ g ((a, P) :: fr) σ h) (r : TR ⟨g.frz, fun i => if i = σ.length then some a else g.loc i⟩ h a t) :
    g.le ⟨g.frz, fun i => if i = σ.length then some a else g.loc i⟩ ∧ Inv g₀ ⟨g.frz, fun i => if i = σ.length then some a else g.loc i⟩ fr (σ ++ [t]) h := by
  have J := I.pop0
  have hf := I.fs _ (.head _)
  have na : a ∉ fr.map (·.1) := (List.nodup_cons.mp I.nd).1
  have le : g.le ⟨g.frz, fun i => if i = σ.length then some a else g.loc i⟩ := by
    refine ⟨fun _ _ e => e, fun i b l => ?_⟩
    have : i ≠ σ.length := Nat.ne_of_lt (I.lo i b l).1
    simp only [this, if_false]
    exact l
  have nl : ∀ i, g.loc i ≠ some a := fun i l => (I.lo i a l).2.2.1 (.head _)
  refine ⟨le, J.base, J.fz, J.fs, J.nd, fun i u e => ?_, fun i b l => ?_, fun i j b l l' => ?_⟩
  · rw [List.getElem?_append] at e
    split at e
    · obtain ⟨b, l, q⟩ := I.so i u e
      exact ⟨b, le.2 i b l, q.mono le fun _ z => z⟩
    · rename_i hi
      have : i = σ.length := by
        rcases Nat.lt_or_ge (i - σ.length) 1 with z | z
        · exact Nat.le_antisymm (Nat.sub_eq_zero_iff_le.mp (Nat.lt_one_iff.mp z)) (Nat.le_of_not_lt hi)
        · rw [List.getElem?_eq_none (by simpa using z)] at e; cases e
      subst this
      simp only [Nat.sub_self, List.getElem?_cons_zero, Option.some.injEq] at e
      subst e
      exact ⟨a, by simp, r⟩
  · dsimp only at l
    rw [List.length_append]
    split at l
    · rename_i hi
      cases l
      exact ⟨by subst hi; simp, hf.2.1, na, hf.2.2⟩
    · obtain ⟨x1, x2, x3⟩ := J.lo i b l
      exact ⟨Nat.lt_of_lt_of_le x1 (Nat.le_add_right _ _), x2, x3⟩
  · dsimp only at l l'
    split at l <;> split at l'
    · rename_i p q; rw [p, q]
    · cases l; exact (nl j l').elim
    · cases l'; exact (nl i l).elim
    · exact I.inj i j b l l'

section
variable {prog : Program} {w : World} {K : Frag} {FT : Addr → Option Fn} {g₀ : Heap} {c : Cx} {fr : List Fm} {d : Nat} {m : Lo}

theorem sub_comp {csc : Scope} {x : Str} {px pos : Pos} {elt iter : Expr} {ifs : List Expr} {el : IE} {t : Option IE} {N : Nat} {xi : List TO → R AV}
    (X : K.In g₀) (C : CxOk c) (hc : compOk csc x = true) (hfold : ∀ v, foldedSetIterable iter c.env v = pure v) (S : CompSubs prog w K FT g₀ c d csc x elt ifs el t N) (hi : Sub prog w VR g₀ c fr d m (eval iter c.env) xi) :
    Sub prog w VR g₀ c fr d m (eval (.ListComp elt [⟨.Name x px, iter, ifs, 0⟩] csc pos) c.env) (fun σ => bnd (xi σ) fun o σ => match iterA K σ o with
      | some vs => bnd (evComp K FT N d el t vs σ) fun vs σ => if AV.frees vs && vs.length ≤ 100000 then mk (.list vs) σ else none
      | none => none) := by
  intro σ r σ' g mm s Q E hx st fin
  rw [eval_ListComp]
  refine comp_core (F := fun vs σ => mk (.list vs) σ) (use := none) X C hc hfold S hi hx st fin.ex fun xs σ₁ hF hfree hlen g' h' tk' D items' n' Ca mmC le I hr h'' I'' => ?_
  simp only [mk, Option.some.injEq, Prod.mk.injEq] at hF
  obtain ⟨rfl, rfl⟩ := hF
  obtain ⟨⟨o, ho, hP⟩, _⟩ := I''.fs _ (.head _)
  obtain ⟨le2, J⟩ := I''.adopt (t := .list xs) ⟨items', n', by rw [ho, show o = _ from hP], VRs.mono (show g'.bare.le _ from ⟨fun _ _ e => e, fun _ _ e => nomatch e⟩) (VRs.bare hfree hr)⟩
  exact fin.ok _ rfl _ _ h'' tk' (le.trans le2) J ⟨D, rfl, by simp⟩
end
end Mine
end

section
open PySem PySem.W PySem.Calls PyProof.Rows
set_option maxRecDepth 100000
namespace Mine

theorem MR.store {g : Gh} {locs : List Str} {m : Lo} {mm : Str → Option Value} {x : Str} {k : Nat} {v : AV} {u : Value} (M : MR g locs m mm) (nd : locs.Nodup) (hk : locs.findIdx? (· == x) = some k) (r : VR g v u) : MR g locs (m.set k (some v)) (fun y => if y = x then some u else mm y) := by
  obtain ⟨h1, h2, _⟩ := List.findIdx?_eq_some_iff_getElem.mp hk
  have h2 := eq_of_beq h2
  intro i y v' hy hv
  rw [List.getElem?_set] at hv
  split at hv
  · rename_i e
    subst e
    split at hv <;> cases hv
    rw [List.getElem?_eq_getElem h1, h2] at hy
    cases hy
    exact ⟨u, by simp, r⟩
  · rename_i e
    obtain ⟨u', hu, q⟩ := M i y v' hy hv
    refine ⟨u', ?_, q⟩
    have : y ≠ x := by
      rintro rfl
      obtain ⟨hi, e2⟩ := List.getElem?_eq_some_iff.mp hy
      have P := List.pairwise_iff_getElem.mp nd
      rcases Nat.lt_trichotomy k i with z | z | z
      · exact P k i h1 hi z (h2.trans e2.symm)
      · exact e z
      · exact P i k hi h1 z (e2.trans h2.symm)
    simp [this, hu]

section
variable {g₀ : Heap} {c : Cx} {fr : List Fm} {r : Out × Lo × List TO} {g g₁ : Gh} {s : Shared} {Q : Flow → Shared → Prop} {E : Value → Shared → Prop} {h₁ : Heap} {tk₁ : Nat}
theorem FinS.later (x : FinS g₀ c fr r g s Q E) (k : g.le g₁) : FinS g₀ c fr r g₁ { s with heap := h₁, toks := tk₁ } Q E :=
  ⟨fun m' σ' e mm' g' h' tk l I M => x.nxt m' σ' e mm' g' h' tk (k.trans l) I M, fun v m' σ' e mm' u g' h' tk l I q => x.ret v m' σ' e mm' u g' h' tk (k.trans l) I q,
   fun i m' σ' e mm' a g' h' tk l I M q z t => x.ex i m' σ' e mm' a g' h' tk (k.trans l) I M q z t⟩
end

section
variable {prog : Program} {w : World} {K : Frag} {g₀ : Heap} {c : Cx} {fr : List Fm} {d : Nat}

theorem Sub.stm {α β : Type} {rel : Gh → α → β → Prop} {m : Lo} {t : Sem β} {x : List TO → R α} (hs : Sub prog w rel g₀ c fr d m t x) {F : α → List TO → RS} {σ : List TO} {r : Out × Lo × List TO} {g : Gh} {mm : Str → Option Value} {s : Shared}
    {Q : β → Shared → Prop} {Q' : Flow → Shared → Prop} {E : Value → Shared → Prop} (hx : Mine.stm (x σ) m F = some r) (st : St g₀ c fr d m σ g mm s.heap) (fin : FinS g₀ c fr r g s Q' E)
    (k : ∀ a v σ₁ g₁ h₁ tk, F a σ₁ = some r → g.le g₁ → St g₀ c fr d m σ₁ g₁ mm h₁ → rel g₁ a v → FinS g₀ c fr r g₁ { s with heap := h₁, toks := tk } Q' E → Q v { s with heap := h₁, toks := tk }) :
    wpS (model prog w) c.A t Q E s := by
  unfold Mine.stm at hx
  split at hx
  · rename_i a σ₁ e
    refine hs e st ⟨fun a' q v g' h' tk l I z => ?_, fun _ q => nomatch q⟩
    cases q
    exact k a v σ₁ g' h' tk hx l (st.next l I) z (fin.later l)
  · rename_i i σ₁ e
    cases hx
    exact hs e st ⟨fun _ q => (nomatch q), fun j q e g' h' tk l I lo hσ t => by
      cases q
      exact fin.ex i m σ₁ rfl mm e g' h' tk l I (st.M.mono l) lo hσ (.inr (.inl t))⟩
  · cases hx

theorem name_store {σ : List TO} {g : Gh} {m : Lo} {mm : Str → Option Value} {s : Shared} {x : Str} {k : Nat} {v : AV} {u : Value} {Q : Unit → Shared → Prop} {E : Value → Shared → Prop} (C : CxOk c) (hx : c.sc.names.lookup x = some .local) (hk : c.locs.findIdx? (· == x) = some k)
    (st : St g₀ c fr d m σ g mm s.heap) (ru : VR g v u) (q : ∀ h', Inv g₀ g ((c.L, frmP fun y => if y = x then some u else mm y) :: fr) σ h' → MR g c.locs (m.set k (some v)) (fun y => if y = x then some u else mm y) → Q () { s with heap := h', toks := s.toks + 1 }) :
    wpAny (model prog w) c.A (storeName c.env x u) Q E s :=
  wpAny_storeName_local ((kindOf_eq C x).trans hx) (C.loc ▸ st.fr.ns) (fun h' hn hs => q h' (st.I.store (frmP.of (C.loc ▸ hn)) (C.loc ▸ hs)) (st.M.store C.nd hk ru)) (by simp [C.hk])

theorem subS_asg {x : Str} {k : Nat} {e : Expr} {p pos : Pos} {xa : Lo → List TO → R AV} (C : CxOk c) (hx : c.sc.names.lookup x = some .local) (hk : c.locs.findIdx? (· == x) = some k) (hsw : swapsWith e (some (.Name x p)) pos.line c.env = pure false)
    (ha : ∀ m, Sub prog w VR g₀ c fr d m (eval e c.env) (xa m)) :
    SubS prog w g₀ c fr d (exec (.Assign [.Name x p] e pos) c.env) (fun m σ => Mine.stm (xa m σ) m fun v σ => some (.nxt, m.set k (some v), σ)) := by
  intro m σ r g mm s Q E hr st fin
  rw [exec_Assign_arm]
  refine wpS_stand ?_
  show wpS _ _ (swapsWith e (some (.Name x p)) pos.line c.env >>= _) _ _ _
  rw [hsw]
  refine wpS_bind (wpS_pure ?_)
  rw [if_neg (by decide)]
  refine wpS_bind (Sub.stm (ha m) hr st fin fun a u σ₁ g₁ h₁ tk hF le st₁ ru fin₁ => ?_)
  cases hF
  refine wpS_bind (wpS.of (wpAny_of_eq (a := none) rfl ?_))
  refine wpS_bind (wpS.of (wpAny_assign_Name (name_store (s := { s with heap := h₁, toks := tk }) C hx hk st₁ ru fun h' I M => ?_)))
  exact wpS_pure (fin₁.nxt _ _ rfl _ g₁ h' _ (Gh.le.refl _) I M)
end
end Mine
end

section
open PySem PySem.W PySem.Calls PyProof.Rows
set_option maxRecDepth 100000
namespace Mine

section
variable {prog : Program} {w : World} {K : Frag} {FT : Addr → Option Fn} {g₀ : Heap} {c : Cx} {fr : List Fm} {d : Nat}

theorem subS_asgC {csc : Scope} {x y : Str} {k : Nat} {px py pos q : Pos} {elt iter : Expr} {ifs : List Expr} {el : IE} {t : Option IE} {N : Nat} {xi : Lo → List TO → R AV}
    (X : K.In g₀) (C : CxOk c) (hy : c.sc.names.lookup y = some .local) (hk : c.locs.findIdx? (· == y) = some k) (hsw : (py.line == q.line && !(csc.names.any fun (n, k) => n == y && (k == .local || k == .cell))) = true)
    (hc : compOk csc x = true) (hfold : ∀ v, foldedSetIterable iter c.env v = pure v) (S : CompSubs prog w K FT g₀ c d csc x elt ifs el t N) (hi : ∀ m, Sub prog w VR g₀ c fr d m (eval iter c.env) (xi m)) :
    SubS prog w g₀ c fr d (exec (.Assign [.Name y py] (.ListComp elt [⟨.Name x px, iter, ifs, 0⟩] csc q) pos) c.env) (fun m σ => stm (bnd (xi m σ) fun o σ => match iterA K σ o with
      | some vs => bnd (evComp K FT N d el t vs σ) fun vs σ => if AV.frees vs && vs.length ≤ 100000 then mk (.list vs) σ else none
      | none => none) m fun v σ => some (.nxt, m.set k (some v), σ)) := by
  intro m σ r g mm s Q E hr st fin
  rw [exec_Assign_arm]
  refine wpS_stand ?_
  have hsw' : swapsWithSole [.Name y py] (.ListComp elt [⟨.Name x px, iter, ifs, 0⟩] csc q) pos.line c.env = pure true := by
    rw [Bool.and_eq_true] at hsw
    have hb : c.env.blockKind = .function := by simp [Env.blockKind, C.hk]
    show pure (c.env.blockKind == .function && c.env.kindOf y == some .local && py.line == q.line && !(csc.names.any fun (n, k) => n == y && (k == .local || k == .cell))) = _
    rw [hb, kindOf_eq C, hy, hsw.1, hsw.2]
    rfl
  rw [hsw']
  refine wpS_bind (wpS_pure ?_)
  rw [if_pos rfl]
  refine wpS_bind ?_
  show wpS _ _ (comprehension (.ListComp elt [⟨.Name x px, iter, ifs, 0⟩] csc q) csc c.env iter.pos (newList []) false (eval iter c.env) (some fun v => assign (.Name y py) c.env v) >>= fun _ => pure ()) _ _ _
  refine wpS_bind ?_
  unfold stm at hr
  dsimp only at hr
  split at hr
  · rename_i v σ₁ e
    refine comp_core (F := fun vs σ => mk (.list vs) σ) (use := some fun v => assign (.Name y py) c.env v) X C hc hfold S (hi m) e st (fun _ q => nomatch q) fun xs σ₂ hF hfree hlen g' h' tk' D items' n' Ca mmC le I hxs => ?_
    simp only [mk, Option.some.injEq, Prod.mk.injEq] at hF
    obtain ⟨e1, rfl⟩ := hF
    cases e1
    cases hr
    have I1 : Inv g₀ g' ((c.L, frmP mm) :: (Ca, frmP mmC) :: (D, justP (lstObj items' n')) :: fr) σ₂ h' := I.perm (((List.Perm.swap _ _ _).cons _).trans (List.Perm.swap _ _ _))
    have hns := frmP.ns (I1.fs _ (.head _)).1
    refine wpS.of (wpAny_assign_Name (wpAny_storeName_local ((kindOf_eq C y).trans hy) (C.loc ▸ hns) (fun h2 hn2 hs2 => ?_) (by simp [C.hk])))
    have I2 := I1.store (m' := frmP fun z => if z = y then some (.ref D) else mm z) (frmP.of (C.loc ▸ hn2)) (C.loc ▸ hs2)
    refine ⟨_, h2, _, rfl, I2.perm ((List.Perm.swap _ _ _).trans ((List.Perm.swap _ _ _).cons _)), fun h3 I3 => ?_⟩
    obtain ⟨⟨o, ho, hP⟩, _⟩ := I3.fs _ (.head _)
    obtain ⟨le2, J⟩ := I3.adopt (t := .list xs) ⟨items', n', by rw [ho, show o = _ from hP], VRs.mono (show g'.bare.le _ from ⟨fun _ _ e => e, fun _ _ e => nomatch e⟩) (VRs.bare hfree hxs)⟩
    exact wpS_pure (wpS_pure (fin.nxt _ _ rfl _ _ h3 _ (le.trans le2) J ((st.M.mono (le.trans le2)).store C.nd hk ⟨D, rfl, by simp⟩)))
  · rename_i i σ₁ e
    cases hr
    refine comp_core (F := fun vs σ => mk (.list vs) σ) (use := some fun v => assign (.Name y py) c.env v) X C hc hfold S (hi m) e st (fun j q e g' h' tk l I lo hσ t => ?_) fun xs σ₂ hF => by simp at hF
    cases q
    exact fin.ex i m σ₁ rfl mm e g' h' tk l I (st.M.mono l) lo hσ (.inr (.inl t))
  · cases hr
end
end Mine
end

section
open PySem PySem.W PySem.Calls PyProof.Rows
set_option maxRecDepth 100000
namespace Mine

section
variable {prog : Program} {w : World} {K : Frag} {FT : Addr → Option Fn} {g₀ : Heap} {c : Cx} {fr : List Fm} {d : Nat}

theorem locIx_some {locs : List Str} {sc : Scope} {x : Str} {k : Nat} (h : locIx locs sc x = some k) : sc.names.lookup x = some .local ∧ locs.findIdx? (· == x) = some k := by
  unfold locIx at h
  split at h
  · rename_i e; exact ⟨e, h⟩
  · cases h

noncomputable abbrev Tgt := Str × Nat × Pos

theorem put_all (C : CxOk c) : ∀ {ps : List Tgt} {us : List Value} {vs : List AV} {T : Tgt → Value → Sem Unit} {m m' : Lo} {σ : List TO} {g : Gh} {mm : Str → Option Value} {s : Shared} {Q : Unit → Shared → Prop} {E : Value → Shared → Prop},
    (∀ p ∈ ps, locIx c.locs c.sc p.1 = some p.2.1) → (∀ p ∈ ps, ∀ u s Q, wpAny (model prog w) c.A (storeName c.env p.1 u) Q E s → wpAny (model prog w) c.A (T p u) Q E s) → VRs g vs us → putAll (ps.map (·.2.1)) vs m = some m' → St g₀ c fr d m σ g mm s.heap →
    (∀ mm' h' tk, Inv g₀ g ((c.L, frmP mm') :: fr) σ h' → MR g c.locs m' mm' → Q () { s with heap := h', toks := tk }) → wpAny (model prog w) c.A (assignInOrder (ps.map T) us) Q E s := by
  intro ps
  induction ps with
  | nil =>
    intro us vs T m m' σ g mm s Q E hl hT hr hp st q
    cases vs with
    | nil =>
      rw [show us = [] from hr]
      cases hp
      exact wpAny_pure (q mm s.heap s.toks st.I st.M)
    | cons v vs => cases hp
  | cons p ps ih =>
    intro us vs T m m' σ g mm s Q E hl hT hr hp st q
    cases vs with
    | nil => cases hp
    | cons v vs =>
      obtain ⟨u, us', rfl, ru, rs⟩ := hr
      obtain ⟨h1, h2⟩ := locIx_some (hl p (.head _))
      refine wpAny_bind (wpAny_holding (hT p (.head _) _ _ _ (name_store C h1 h2 st ru fun h' I M => ?_)))
      have st' : St g₀ c fr d (m.set p.2.1 (some v)) σ g (fun y => if y = p.1 then some u else mm y) h' := ⟨I, M, let ⟨envs, a, b⟩ := st.F; ⟨envs, a, b.head (Slt.frm _)⟩, st.R⟩
      exact ih (s := { s with heap := h', toks := s.toks + 1 }) (fun p hp => hl p (.tail _ hp)) (fun p hp => hT p (.tail _ hp)) rs hp st' q
end

theorem targets_are {locs : List Str} {sc : Scope} {ts : List Expr} {ks : List Nat} (h : CT locs sc ts ks) : ∃ ps : List Tgt, ks = ps.map (·.2.1) ∧ (∀ p ∈ ps, locIx locs sc p.1 = some p.2.1) ∧ ts = ps.map fun p => Expr.Name p.1 p.2.2 := by
  induction h with
  | nil => exact ⟨[], rfl, nofun, rfl⟩
  | @cons x q ts k ks hk h ih =>
    obtain ⟨ps, rfl, h2, rfl⟩ := ih
    refine ⟨(x, k, q) :: ps, rfl, fun p hp => ?_, rfl⟩
    rcases List.mem_cons.mp hp with rfl | hp
    · exact hk
    · exact h2 p hp

theorem cEs_length {K : Frag} {locs : List Str} {sc : Scope} : ∀ {es : List Expr} {ies : List IE}, CEs K locs sc es ies → es.any (fun | .Starred .. => true | _ => false) = false := by
  intro es
  induction es with
  | nil => intro _ _; rfl
  | cons e es ih =>
    intro ies h
    cases h with
    | cons h1 h2 =>
      rw [List.any_cons, ih h2, Bool.or_false]
      exact (cE_plain h1).nst

theorem swapped_of {sc : Scope} {env : Env} {ts es : List Expr} {ps : List Tgt} {k k' : Nat} {p p' : Pos} (hk : ∀ x, env.kindOf x = sc.names.lookup x) (hb : env.blockKind = .function) (h : swOk sc ts es = true) (hs : es.any (fun | .Starred .. => true | _ => false) = false) (ht : ts = ps.map fun p => Expr.Name p.1 p.2.2) :
    swappedStores [.Tuple ts k p] (.Tuple es k' p') env = pure (some (ps.map (·.1))) ∧ ps.length = es.length := by
  unfold swOk at h
  simp only [Bool.and_eq_true, beq_iff_eq, Bool.not_eq_true'] at h
  obtain ⟨⟨⟨⟨⟨h1, h2⟩, h3⟩, h4⟩, h5⟩, h6⟩ := h
  have e : ∀ line, (ts.filterMap (swName sc line)).length = ts.length → ts.filterMap (swName sc line) = ps.map (·.1) := by
    subst ht
    intro line h3'
    clear h1 h2 h3 h4 h5 h6 hs
    rename _ => h3
    induction ps with
    | nil => rfl
    | cons q ps ih =>
      simp only [List.map_cons, List.filterMap_cons] at h3 ⊢
      split at h3
      · rename_i hf
        have := List.length_filterMap_le (swName sc line) (ps.map fun p => Expr.Name p.1 p.2.2)
        simp only [List.length_cons] at h3
        omega
      · rename_i id hf
        simp only [List.length_cons, Nat.add_right_cancel_iff] at h3
        rw [ih h3]
        simp only [swName] at hf
        split at hf
        · cases hf; rfl
        · cases hf
  have hl : ps.length = es.length := by rw [h2, ht, List.length_map]
  refine ⟨?_, hl⟩
  have hk' : env.kindOf = fun x => sc.names.lookup x := funext hk
  have e1 := e _ h3
  unfold swappedStores
  dsimp only
  rw [hk', hb, h1, h2, h5, h6]
  generalize hB : es.any _ = B
  obtain rfl : B = false := hB.symm.trans hs
  generalize hG : List.filterMap _ ts = G
  obtain rfl : G = ps.map (·.1) := hG.symm.trans e1
  rw [e1] at h3 h4
  rw [h3, h4]
  simp only [List.length_map] at h3
  simp [h3]
end Mine
end

section
open PySem PySem.W PySem.Calls PyProof.Rows
set_option maxRecDepth 100000
namespace Mine

section
variable {prog : Program} {w : World} {K : Frag} {FT : Addr → Option Fn} {g₀ : Heap} {c : Cx} {fr : List Fm} {d : Nat}

theorem subS_asgAt {o e : Expr} {p pos : Pos} {xo xe : Lo → List TO → R AV} (X : K.In g₀) (W : ClsOk K) (hsw : swapsWith e (some (.Attribute o "at" p)) pos.line c.env = pure false)
    (ho : ∀ m, Sub prog w VR g₀ c fr d m (eval o c.env) (xo m)) (he : ∀ m, Sub prog w VR g₀ c fr d m (eval e c.env) (xe m)) :
    SubS prog w g₀ c fr d (exec (.Assign [.Attribute o "at" p] e pos) c.env) (fun m σ => match xe m σ with
      | some (.ok (.int a), σ) => (match xo m σ with
        | some (.ok (.wire i), σ) => (match σ[i]? with
          | some (.wire b _) => some (.nxt, m, σ.set i (.wire b a))
          | _ => none)
        | _ => none)
      | _ => none) := by
  intro m σ r g mm s Q E hr st fin
  rw [plainObj_exec_Assign_Attribute _ _ _ _ _ hsw]
  refine wpS_stand ?_
  dsimp only at hr
  split at hr <;> try (cases hr; done)
  rename_i a σ₁ h1
  refine wpS_bind (he m h1 st ⟨fun _ q u g1 h1 tk1 le1 I1 hu => ?_, fun _ q => nomatch q⟩)
  cases q
  split at hr <;> try (cases hr; done)
  rename_i i σ₂ h2
  refine wpS_bind ?_
  rw [assign_Attribute]
  refine (wpS_bind (wpS_holding (ho m h2 (st.next le1 I1) ⟨fun _ q v g2 h2 tk2 le2 I2 hv => ?_, fun _ q => nomatch q⟩)))
  cases q
  split at hr <;> try (cases hr; done)
  rename_i b a0 h3
  cases hr
  obtain ⟨t0, rfl⟩ := hu
  refine cont fun PP kq => ?_
  obtain ⟨x, dx, i1, t1, t1', i2, t2, t2', n, rfl, l, IA⟩ := wire_inst I2 hv h3
  refine kq ?_
  have X2 : K.In h2 := X.keeps fun b o z => I2.fz _ _ (I2.base _ _ z)
  refine wpS_stand (wpS_bind (wpS_holding (wpS.of (store_own (s := { s with heap := h2, toks := tk2 }) (es' := fun _ _ => wireEs i1 t1 (.bytes b.toArray t1') i2 t2 (.int a t0)) (n' := n) X2 W.init.st IA rfl W.init.tk2 rfl (fun _ _ => rfl) (fun _ _ => by simp) fun h4 _ _ tk4 q4 s4 => ?_))))
  refine wpS_release (wpS_pure ?_)
  have I4 := I2.set l s4 (t := .wire b a) ⟨i1, t1, t1', i2, t2, t0, n, q4⟩
  exact fin.nxt _ _ rfl mm g2 h4 _ (le1.trans le2) I4 (st.M.mono (le1.trans le2))

theorem subS_expr {e : Expr} {pos : Pos} {xa : Lo → List TO → R AV} (C : CxOk c) (hsw : swapsWith e none pos.line c.env = pure false) (ha : ∀ m, Sub prog w VR g₀ c fr d m (eval e c.env) (xa m)) :
    SubS prog w g₀ c fr d (exec (.Expr e pos) c.env) (fun m σ => stm (xa m σ) m fun v σ => match v with
      | .none => some (.nxt, m, σ)
      | .bool _ => some (.nxt, m, σ)
      | _ => none) := by
  intro m σ r g mm s Q E hr st fin
  rw [exec_Expr c.env e pos (by simp [interactive, C.hk]) hsw]
  refine wpS_stand (wpS_bind (Sub.stm (ha m) hr st fin fun a u σ₁ g₁ h₁ tk hF le st₁ ru fin₁ => ?_))
  have key : ∀ u : Value, (∀ a, u ≠ .ref a) → wpS (model prog w) c.A (pure Flow.next) Q E { s with heap := h₁, toks := tk } → wpS (model prog w) c.A (dropValue e pos u) Q E { s with heap := h₁, toks := tk } := fun u hu q => by
    rw [dropValue_plain hu]; exact q
  have fin' : r = (.nxt, m, σ₁) → wpS (model prog w) c.A (pure Flow.next) Q E { s with heap := h₁, toks := tk } := fun e => wpS_pure (fin₁.nxt _ _ e mm g₁ h₁ tk (Gh.le.refl _) st₁.I st₁.M)
  split at hF
  · cases hF
    exact key u (by rw [show u = .none from ru]; nofun) (fin' rfl)
  · cases hF
    exact key u (by rw [show u = .bool _ from ru]; nofun) (fin' rfl)
  · cases hF

theorem subS_ret {e : Expr} {pos : Pos} {xa : Lo → List TO → R AV} (ha : ∀ m, Sub prog w VR g₀ c fr d m (eval e c.env) (xa m)) :
    SubS prog w g₀ c fr d (exec (.Return (some e) pos) c.env) (fun m σ => stm (xa m σ) m fun v σ => some (.ret v, m, σ)) := by
  intro m σ r g mm s Q E hr st fin
  show wpS _ _ (standAt pos >>= fun _ => eval e c.env >>= fun v => pure (Flow.ret v)) _ _ _
  refine wpS_stand (wpS_bind (Sub.stm (ha m) hr st fin fun a u σ₁ g₁ h₁ tk hF le st₁ ru fin₁ => ?_))
  cases hF
  exact wpS_pure (fin₁.ret _ _ _ rfl mm u g₁ h₁ tk (Gh.le.refl _) st₁.I ru)

theorem subS_ite {t : Expr} {a b : List Stmt} {pos : Pos} {xt : Lo → List TO → R Bool} {ya yb : Lo → List TO → RS} (ht : ∀ m, Sub prog w BR g₀ c fr d m (isTrue t c.env (eval t c.env)) (xt m)) (ha : SubS prog w g₀ c fr d (execs a c.env) ya) (hb : SubS prog w g₀ c fr d (execs b c.env) yb) :
    SubS prog w g₀ c fr d (exec (.If t a b pos) c.env) (fun m σ => stm (xt m σ) m fun t σ => if t then ya m σ else yb m σ) := by
  intro m σ r g mm s Q E hr st fin
  show wpS _ _ (standAt pos >>= fun _ => isTrue t c.env (eval t c.env) >>= fun b' => if b' = true then execs a c.env else execs b c.env) _ _ _
  refine wpS_stand (wpS_bind (Sub.stm (ht m) hr st fin fun v u σ₁ g₁ h₁ tk hF le st₁ ru fin₁ => ?_))
  cases ru
  cases v
  · exact hb hF st₁ fin₁
  · exact ha hF st₁ fin₁

theorem subS_nil : SubS prog w g₀ c fr d (execs [] c.env) (fun m σ => some (.nxt, m, σ)) := by
  intro m σ r g mm s Q E hr st fin
  cases hr
  exact wpS_pure (fin.nxt _ _ rfl mm g s.heap s.toks (Gh.le.refl _) st.I st.M)

theorem subS_cons {a : Stmt} {l : List Stmt} {ya yl : Lo → List TO → RS} (ha : SubS prog w g₀ c fr d (exec a c.env) ya) (hl : SubS prog w g₀ c fr d (execs l c.env) yl) :
    SubS prog w g₀ c fr d (execs (a :: l) c.env) (fun m σ => match ya m σ with
      | some (.nxt, m, σ) => yl m σ
      | x => x) := by
  intro m σ r g mm s Q E hr st fin
  show wpS _ _ (exec a c.env >>= fun f => match f with | .next => execs l c.env | f => pure f) _ _ _
  dsimp only at hr
  split at hr
  · rename_i m₁ σ₁ e
    refine wpS_bind (ha e st ⟨fun m' σ' q mm' g' h' tk le I M => ?_, fun _ _ _ q => (nomatch q), fun _ _ _ q => nomatch q⟩)
    cases q
    exact hl hr ⟨I, M, let ⟨envs, a, b⟩ := st.F; ⟨envs, a, b.head (Slt.frm _)⟩, st.R⟩ (fin.later le)
  · rename_i x hne
    refine wpS_bind (ha hr st ⟨fun m' σ' q => ?_, fun v m' σ' q mm' u g' h' tk le I ru => ?_, fin.ex⟩)
    · subst q; exact (hne _ _ hr).elim
    · exact wpS_pure (fin.ret v m' σ' q mm' u g' h' tk le I ru)
end
end Mine
end

section
open PySem PySem.W PySem.Calls PyProof.Rows
set_option maxRecDepth 100000
namespace Mine

theorem VRs.reverse {g : Gh} : ∀ {as : List AV} {us : List Value}, VRs g as us → VRs g as.reverse us.reverse
  | [], us, h => by rw [show us = [] from h]; exact VRs.nil
  | a :: as, us, ⟨v, vs, e, h, r⟩ => by
    subst e
    rw [List.reverse_cons, List.reverse_cons]
    exact (VRs.reverse r).append (VRs.cons h VRs.nil)

theorem putAll_length : ∀ {ks : List Nat} {vs : List AV} {m m' : Lo}, putAll ks vs m = some m' → ks.length = vs.length
  | [], [], _, _, _ => rfl
  | [], _ :: _, _, _, h => nomatch h
  | _ :: _, [], _, _, h => nomatch h
  | _ :: ks, _ :: vs, _, _, h => congrArg Nat.succ (putAll_length (ks := ks) (vs := vs) h)

section
variable {prog : Program} {w : World} {K : Frag} {FT : Addr → Option Fn} {g₀ : Heap} {c : Cx} {fr : List Fm} {d : Nat}

theorem subS_asgT {ts es : List Expr} {ks : List Nat} {k k' : Nat} {p p' pos : Pos} {xs : Lo → List TO → R (List AV)} (C : CxOk c) (hw : swOk c.sc ts es = true) (hst : es.any (fun | .Starred .. => true | _ => false) = false) (ht : CT c.locs c.sc ts ks) (hlen : es.length ≤ 100)
    (hs : ∀ m, Sub prog w VRs g₀ c fr d m (spliced (backTo p' (starEach es c.env))) (xs m)) :
    SubS prog w g₀ c fr d (exec (.Assign [.Tuple ts k p] (.Tuple es k' p') pos) c.env) (fun m σ => stm (xs m σ) m fun vs σ => match putAll ks.reverse vs.reverse m with
      | some m => some (.nxt, m, σ)
      | none => none) := by
  intro m σ r g mm s Q E hr st fin
  obtain ⟨ps, rfl, hl, hts⟩ := targets_are ht
  have hb : c.env.blockKind = .function := by simp [Env.blockKind, C.hk]
  obtain ⟨hsw, hpl⟩ := swapped_of (k := k) (k' := k') (p := p) (p' := p') (kindOf_eq C) hb hw hst hts
  rw [exec_Assign_arm]
  refine wpS_stand ?_
  refine wpS_bind (wpS.of (wpAny_of_eq (a := false) rfl ?_))
  rw [if_neg (by decide)]
  refine wpS_bind ?_
  rw [arm_eval_Tuple]
  refine wpS_stand (wpS_bind (Sub.stm (hs m) hr st fin fun vs us σ₁ g₁ h₁ tk hF le st₁ ru fin₁ => ?_))
  have hul : us.length = vs.length := ru.length
  split at hF
  · rename_i m' hp
    cases hF
    have hpv : ps.length = vs.length := by simpa using putAll_length hp
    refine wpS.of (wpAny_newTuple ?_ (by rw [sizeLine_eq, hul, ← hpv, hpl]; omega))
    have kp : ∀ b o', h₁.get? b = some o' → (h₁.push (tupObj us.toArray 0)).get? b = some o' := fun b o e => Heap.get?_push_of_some _ e
    rw [hsw]
    refine wpS_bind (wpS_pure ?_)
    unfold assignStores
    dsimp only
    refine wpS_bind (wpS.of (wpAny_rule ?_))
    have hn : (ps.map (·.1)).length = us.toArray.size := by rw [List.length_map, List.size_toArray, hul, hpv]
    rw [hn]
    refine wpS_bind (wpS.of (unpackItems_tuple (s := { s with heap := h₁.push (tupObj us.toArray 0), toks := tk }) C.hh (isTup_of (Heap.get?_push_size _ rfl)) fun h2 he2 => ?_))
    have kp2 : ∀ b o', h₁.get? b = some o' → h2.get? b = some o' := fun b o e => he2 b o (Nat.ne_of_lt (Heap.lt_size (kp _ _ e))) (kp _ _ e)
    have st2 := st₁.next (st₁.I.grown_le kp2) (st₁.I.grow kp2)
    refine wpS_bind (wpS.of ?_)
    have e1 : ((ps.map (·.1)).reverse.map fun n => bindName c.env n) = ps.reverse.map fun q => bindName c.env q.1 := by
      rw [← List.map_reverse, List.map_map]; rfl
    rw [e1]
    have e2 : (us.toArray.toList.reverse) = us.reverse := by simp
    rw [e2]
    refine put_all (T := fun q => bindName c.env q.1) (s := { s with heap := h2, toks := tk }) (m := m) (m' := m') C (fun q hq => hl q (List.mem_reverse.mp hq)) (fun q _ u s Q h => wpAny_bindName h) ((ru.mono (st₁.I.grown_le kp2)).reverse) (by rw [← List.map_reverse] at hp; exact hp) st2 fun mm' h' tk' I M => ?_
    exact wpS_pure (fin₁.nxt _ _ rfl mm' _ h' tk' (st₁.I.grown_le kp2) I M)
  · cases hF

theorem subS_while {t : Expr} {b : List Stmt} {pos : Pos} {it : IE} {ib : List IS} {N : Nat} (ht : ∀ k < N, ∀ m, Sub prog w BR g₀ c fr d m (isTrue t c.env (eval t c.env)) (fun σ => evT K FT k d m it σ)) (hb : ∀ k < N, SubS prog w g₀ c fr d (execs b c.env) (fun m σ => evSs K FT k d ib m σ)) :
    SubS prog w g₀ c fr d (exec (.While t b [] pos) c.env) (fun m σ => evS K FT N d (.whil it ib) m σ) := by
  intro m σ r g mm s Q E hr st fin
  show wpS _ _ (standAt pos >>= fun _ => runOwn (.whileLoop t b [] c.env) c.env) _ _ _
  refine wpS_stand (wpS_runOwn (h := none) ?_ none_bp)
  show codeS (model prog w) c.A _ _ _
  have key : ∀ n ≤ N, ∀ m σ r g mm h tk, evS K FT n d (.whil it ib) m σ = some r → St g₀ c fr d m σ g mm h → FinS g₀ c fr r g { s with heap := h, toks := tk } Q E →
      codeS (model prog w) c.A (.whileLoop t b [] c.env) (fun r s' => match r with | .ok f => Q f s' | .error e => cameBackBy (model prog w) c.A c.env E e s') { s with heap := h, toks := tk } := by
    intro n
    induction n with
    | zero => intro _ m σ r g mm h tk hx; simp [evS_0] at hx
    | succ n ih =>
      intro hn m σ r g mm h tk hx st fin
      refine codeS_of_tree rfl ?_
      rw [Around.under_of_weight rfl]
      refine wpS_onRaise (wpS_mono (Q := fun fin s' => match fin with | .done f => Q f s' | .again c' => c'.quiet = true ∧ codeS (model prog w) c.A c' (fun r s' => match r with | .ok f => Q f s' | .error e => cameBackBy (model prog w) c.A c.env E e s') s') (E := fun _ _ => False) ?_ (fun fin _ z => by cases fin <;> exact z) fun _ _ z => z.elim)
      show wpS _ _ (isTrue t c.env (eval t c.env) >>= fun b' => if b' = true then (execs b c.env >>= fun f => match f with
        | .next => again (.whileLoop t b [] c.env)
        | .cont => again (.whileLoop t b [] c.env)
        | .brk => pure (.done .next)
        | .ret v => pure (.done (.ret v))) else (execs [] c.env >>= fun f => pure (.done f))) _ _ _
      rw [evS_whil] at hx
      split at hx <;> try (cases hx; done)
      · rename_i σ₁ hT
        refine wpS_bind (ht n (by omega) m hT st ⟨fun _ q v g1 h1 tk1 le1 I1 hv => ?_, fun _ q => nomatch q⟩)
        cases q
        cases hv
        rw [if_pos rfl]
        split at hx <;> try (cases hx; done)
        rename_i m₁ σ₂ hB
        refine wpS_bind (hb n (by omega) hB (st.next le1 I1) ⟨fun m' σ' q mm' g' h' tk' le I M => ?_, fun _ _ _ q => (nomatch q), fun _ _ _ q => nomatch q⟩)
        cases q
        refine wpS_pure ⟨rfl, ?_⟩
        exact ih (by omega) m₁ σ₂ r g' mm' h' tk' hx ⟨I, M, let ⟨envs, a, b⟩ := st.F; ⟨envs, a, b.head (Slt.frm _)⟩, st.R⟩ (fin.later (le1.trans le))
      · rename_i σ₁ hT
        cases hx
        refine wpS_bind (ht n (by omega) m hT st ⟨fun _ q v g1 h1 tk1 le1 I1 hv => ?_, fun _ q => nomatch q⟩)
        cases q
        cases hv
        rw [if_neg (by decide)]
        exact wpS_bind (wpS_pure (wpS_pure (fin.nxt _ _ rfl mm g1 h1 tk1 le1 I1 (st.M.mono le1))))
  exact key N (Nat.le_refl _) m σ r g mm s.heap s.toks hr st fin
end
end Mine
end

section
open PySem PySem.W PySem.Calls PyProof.Rows
set_option maxRecDepth 100000
namespace Mine

section
variable {M : Model} {A : Around} {E : Value → Shared → Prop} {s : Shared} {g₀ : Heap} {g : Gh} {fr : List Fm} {σ : List TO}

theorem came_ok {env : Env} {outer : List Env} {L e i : Addr} (hfr : A.frames = some (env :: outer)) (hf : env.frame = some L) (F : FrIn fr (env :: outer)) (I : Inv g₀ g fr σ s.heap) (l : g.loc i = some e) (hσ : Rsd σ i)
    (hx : ExTr g fr s.heap e (rawInt L)) (q : ∀ h', Inv g₀ g fr σ h' → ExTr g fr h' e (rawInt L) → E (.ref e) { s with heap := h' }) : cameBackBy M A env E (.ref e) s := by
  unfold cameBackBy
  refine cont fun PP kq => ?_
  obtain ⟨oe, vs, T, oT, ts, he, hd, hz, h1, r⟩ := id hx
  refine kq ?_
  refine wpAny_bind (wpAny_field he hd h1 ?_)
  rw [if_neg (by simp), hf]
  exact flight_ok (to := some L) F I l hσ hx q
theorem noted_ok {env : Env} {outer : List Env} {L e i : Addr} {E' : Value → Shared → Prop} (hfr : A.frames = some (env :: outer)) (hf : env.frame = some L) (F : FrIn fr (env :: outer)) (I : Inv g₀ g fr σ s.heap) (l : g.loc i = some e) (hσ : Rsd σ i)
    (hx : ExSt g fr L s.heap e) (q : ∀ h', Inv g₀ g fr σ h' → ExTr g fr h' e (rawInt L) → E (.ref e) { s with heap := h' }) : wpAny M A (do noteFrame (.ref e) env; theTreesLotGoes (.ref e)) (fun _ s' => cameBackBy M A env E (.ref e) s') E' s :=
  wpAny_bind (note_ok hfr hf F I l hσ hx fun h' I' t => wpAny_theTreesLotGoes (came_ok (s := { s with heap := h' }) hfr hf F I' l hσ t q))
end

theorem ExTr.le {g : Gh} {fr fr' : List Fm} {h : Heap} {e : Addr} {fl : Value} (x : ExTr g fr h e fl) (k : ∀ a, a ∈ fr'.map (·.1) → a ∈ fr.map (·.1)) : ExTr g fr' h e fl := by
  refine cont fun PP kq => ?_
  obtain ⟨oe, vs, T, oT, ts, h1, h2, h3, h4, h5, h6, r⟩ := x
  refine kq ?_
  exact ⟨oe, vs, T, oT, ts, h1, h2, h3, h4, h5, fun m => h6 (m.imp (k T) id), r⟩
section
variable {prog : Program} {w : World} {K : Frag} {FT : Addr → Option Fn} {g₀ : Heap} {c : Cx} {fr : List Fm} {d : Nat}

theorem each_names {env : Env} : ∀ ps : List Tgt, assignEach (ps.map fun p => Expr.Name p.1 p.2.2) env = ps.map fun p => (false, assign (.Name p.1 p.2.2) env)
  | [] => rfl
  | p :: ps => by rw [List.map_cons, List.map_cons, ← each_names ps]; rfl

inductive TgtOk (c : Cx) : Expr → List Nat → Prop where
  | name {x : Str} {k : Nat} {p : Pos} : locIx c.locs c.sc x = some k → TgtOk c (.Name x p) [k]
  | tup {ts : List Expr} {ks : List Nat} {k : Nat} {p : Pos} : CT c.locs c.sc ts ks → ks.length ≠ 1 → TgtOk c (.Tuple ts k p) ks

theorem assign_tgt {t : Expr} {ks : List Nat} {v : AV} {u : Value} {m m' : Lo} {σ : List TO} {g : Gh} {mm : Str → Option Value} {s : Shared} {Q : Unit → Shared → Prop} {E : Value → Shared → Prop} (X : K.In g₀) (C : CxOk c) (T : TgtOk c t ks) (hp : putT K ks v m = some m') (st : St g₀ c fr d m σ g mm s.heap) (ru : VR g v u)
    (q : ∀ mm' g' h' tk, g.le g' → Inv g₀ g' ((c.L, frmP mm') :: fr) σ h' → MR g' c.locs m' mm' → Q () { s with heap := h', toks := tk }) : wpAny (model prog w) c.A (assign t c.env u) Q E s := by
  cases T with
  | name h =>
    obtain ⟨h1, h2⟩ := locIx_some h
    cases hp
    exact wpAny_assign_Name (name_store C h1 h2 st ru fun h' I M => q _ g h' _ (Gh.le.refl g) I M)
  | @tup ts ks k p h hne =>
    obtain ⟨ps, rfl, hl, rfl⟩ := targets_are h
    have hp : (tupItems K v).bind (fun us => putAll (ps.map (·.2.1)) us m) = some m' := by
      unfold putT at hp
      split at hp
      · rename_i e; exact absurd (by rw [e]; rfl) hne
      · exact hp
    simp only [Option.bind_eq_some_iff] at hp
    obtain ⟨us, hu, hp⟩ := hp
    obtain ⟨x, items, n, rfl, f, z⟩ := tup_at X st.I ru hu
    have hz : items.size = us.length := by rw [← Array.length_toList]; exact z.length
    have hpl := putAll_length hp
    rw [arm_assign_Tuple]
    refine wpAny_bind (wpAny_standAt ?_)
    rw [each_names]
    refine wpAny_unpack_tuple C.hh ⟨_, st.I.fz _ _ f, rfl, n, rfl⟩ (by rw [List.length_map, hz, ← hpl, List.length_map]) (by simp) fun h2 he2 => ?_
    rw [List.map_map]
    have kp2 : ∀ b o', s.heap.get? b = some o' → h2.get? b = some o' := fun b o e => he2 b o (Nat.ne_of_lt (Heap.lt_size e)) e
    exact put_all (T := fun p => assign (.Name p.1 p.2.2) c.env) (s := { s with heap := h2 }) C hl (fun p _ u s Q h => wpAny_assign_Name h) (z.mono (st.I.grown_le kp2)) hp (st.next (st.I.grown_le kp2) (st.I.grow kp2)) fun mm' h' tk I M => q mm' _ h' tk (st.I.grown_le kp2) I M

theorem owned_ok {g : Gh} {fr : List Fm} {σ : List TO} {A : Around} {s : Shared} {E : Value → Shared → Prop} {it : Addr} {src : Src} {i : Nat} {t : Expr} {u : Value} {Q : Unit → Shared → Prop} (I : Inv g₀ g ((it, itP src i) :: fr) σ s.heap) (q : Q () s) : wpAny (model prog w) A (letOwnedTupleGo t (.ref it) u) Q E s := by
  obtain ⟨⟨o, ho, hP⟩, _⟩ := I.fs _ (.head _)
  have key : ∀ es k p, wpAny (model prog w) A (letOwnedTupleGo (.Tuple es k p) (.ref it) u) Q E s := by
    intro es k p
    cases u with
    | ref a =>
      show wpAny _ _ (load it >>= _) _ _ _
      refine wpAny_bind (wpAny_load ho ?_)
      obtain ⟨oc, od, odt, osl⟩ := o
      cases src with
      | str x t => obtain ⟨h1, h2⟩ := hP; dsimp only at h1 h2; subst h1 h2; exact wpAny_pure q
      | bytes x t => obtain ⟨h1, h2⟩ := hP; dsimp only at h1 h2; subst h1 h2; exact wpAny_pure q
      | tup x t => obtain ⟨h1, h2⟩ := hP; dsimp only at h1 h2; subst h1 h2; exact wpAny_pure q
      | lst x t => obtain ⟨h1, h2⟩ := hP; dsimp only at h1 h2; subst h1 h2; exact wpAny_pure q
      | range n => cases (show _ = _ from hP); exact wpAny_pure q
    | _ => exact wpAny_pure q
  cases t with
  | Tuple es k p => exact key es k p
  | List es p => exact key es 0 p
  | _ => exact wpAny_pure q

theorem for_loop {t : Expr} {b : List Stmt} {ks : List Nat} {ib : List IS} {N : Nat} {it : Addr} {src : Src} {vs : List AV} {outer : List Env} {mm₀ : Str → Option Value} {s : Shared} {Q : Flow → Shared → Prop} {E : Value → Shared → Prop} (X : K.In g₀) (C : CxOk c) (T : TgtOk c t ks) (hfr : c.A.frames = some (c.env :: outer))
    (hFr : FrIn ((c.L, frmP mm₀) :: fr) (c.env :: outer)) (hR : Room c.A d) (hb : ∀ k < N, ∀ fr', SubS prog w g₀ c fr' d (execs b c.env) (fun m σ => evSs K FT k d ib m σ)) :
    ∀ n ≤ N, ∀ rem i m σ r g mm h tk, evFor K FT n d ks rem ib m σ = some r → vs.drop i = rem → Inv g₀ g ((it, itP src i) :: (c.L, frmP mm) :: fr) σ h → MR g c.locs m mm → SrcOk g vs src → FinS g₀ c fr r g { s with heap := h, toks := tk } Q E →
      codeS (model prog w) c.A (.forLoop t (.ref it) b [] c.env) (fun r s' => match r with | .ok f => Q f s' | .error e => cameBackBy (model prog w) c.A c.env E e s') { s with heap := h, toks := tk } := by
  intro n
  induction n with
  | zero => intro _ rem i m σ r g mm h tk hx; simp [evFor_0] at hx
  | succ n ih =>
    intro hn rem i m σ r g mm h tk hx hdrop I M hS fin
    refine codeS_of_tree rfl ?_
    rw [Around.under_of_weight rfl]
    show wpS _ _ ((forTurn t (.ref it) b [] c.env).onRaise fun x => do noteFrame x c.env; theTreesLotGoes x) _ _ _
    refine wpS_onRaise ?_
    unfold forTurn
    refine wpS_stand ?_
    cases rem with
    | nil =>
      simp only [evFor_nil] at hx
      cases hx
      refine wpS_bind (wpS_onRaise (wpS.of (it_end (s := { s with heap := h, toks := tk }) C.hh I hS (by rw [List.drop_eq_nil_iff] at hdrop; exact List.getElem?_eq_none hdrop) fun g' h' le I' => ?_)))
      refine wpS_pure ⟨rfl, codeS_of_tree rfl ?_⟩
      show wpS _ _ ((execs [] c.env).onRaise (fun x => do noteFrame x c.env; theTreesLotGoes x) >>= fun f => pure (PySem.Fin.done f)) _ _ _
      exact wpS_bind (wpS_onRaise (wpS_pure (wpS_pure (fin.nxt _ _ rfl mm g' h' tk le I' (M.mono le)))))
    | cons v rem =>
      have hv : vs[i]? = some v := by
        have := congrArg (fun l => l[0]?) hdrop
        simpa using this
      have hdrop' : vs.drop (i + 1) = rem := by rw [← List.drop_drop, hdrop]; rfl
      rw [evFor_cons] at hx
      split at hx <;> try (cases hx; done)
      rename_i m₁ hp
      refine wpS_bind (wpS_onRaise (wpS.of (it_item (s := { s with heap := h, toks := tk }) I hS hv fun u h1 tk1 I1 hu => ?_)))
      refine wpS_bind (wpS.of (owned_ok (s := { s with heap := h1, toks := tk1 }) I1 ?_))
      have F1 : ∀ mm', FrIn ((c.L, frmP mm') :: (it, itP src (i + 1)) :: fr) (c.env :: outer) := fun mm' => (hFr.head (Slt.frm mm')).sub fun p hp => by
        rcases List.mem_cons.mp hp with rfl | hp
        · exact .head _
        · exact .tail _ (.tail _ hp)
      have st1 : St g₀ c ((it, itP src (i + 1)) :: fr) d m σ g mm h1 := ⟨I1.perm (List.Perm.swap _ _ _), M, ⟨_, hfr, F1 mm⟩, hR⟩
      refine wpS_bind (wpS.of (assign_tgt (s := { s with heap := h1, toks := tk1 }) X C T hp st1 hu fun mm2 g2 h2 tk2 le2 I2 M2 => ?_))
      have st2 : St g₀ c ((it, itP src (i + 1)) :: fr) d m₁ σ g2 mm2 h2 := ⟨I2, M2, ⟨_, hfr, F1 mm2⟩, hR⟩
      have popd : ∀ {g'' h'' σ'' mm''}, Inv g₀ g'' ((c.L, frmP mm'') :: (it, itP src (i + 1)) :: fr) σ'' h'' → Inv g₀ g'' ((c.L, frmP mm'') :: fr) σ'' h'' := fun I => (I.perm (List.Perm.swap _ _ _)).pop0
      split at hx <;> try (cases hx; done)
      · rename_i m₂ σ₂ hB
        refine wpS_bind (hb n (by omega) _ hB st2 ⟨fun m' σ' q mm' g' h' tk' le I M => ?_, fun _ _ _ q => (nomatch q), fun _ _ _ q => nomatch q⟩)
        cases q
        refine wpS_pure ⟨rfl, ?_⟩
        exact ih (by omega) rem (i + 1) m₂ σ₂ r g' mm' h' tk' hx hdrop' (I.perm (List.Perm.swap _ _ _)) M ((hS.mono le2).mono le) (fin.later (le2.trans le))
      · rename_i j m₂ σ₂ hB
        cases hx
        refine wpS_bind (hb n (by omega) _ hB st2 ⟨fun _ _ q => (nomatch q), fun _ _ _ q => (nomatch q), fun j' m' σ' q mm' e g' h' tk' le I M l hσ hE => ?_⟩)
        cases q
        refine wpS.of (noted_ok (s := { s with heap := h', toks := tk' }) hfr C.frame (F1 mm') I l hσ hE fun h'' I'' t => ?_)
        exact fin.ex j m₂ σ₂ rfl mm' e g' h'' tk' (le2.trans le) (popd I'') M l hσ (.inr (.inr (t.le fun a ha => by
          simp only [List.map_cons, List.mem_cons] at ha ⊢
          exact ha.imp id .inr)))

theorem subS_for {t iter : Expr} {b : List Stmt} {pos : Pos} {ks : List Nat} {ib : List IS} {N : Nat} {xi : Lo → List TO → R AV} (X : K.In g₀) (C : CxOk c) (T : TgtOk c t ks) (hfr : ∃ outer, c.A.frames = some (c.env :: outer)) (hfold : ∀ v, foldedSetIterable iter c.env v = pure v)
    (hi : ∀ m, Sub prog w VR g₀ c fr d m (eval iter c.env) (xi m)) (hb : ∀ k < N, ∀ fr', SubS prog w g₀ c fr' d (execs b c.env) (fun m σ => evSs K FT k d ib m σ)) :
    SubS prog w g₀ c fr d (exec (.For t iter b [] pos) c.env) (fun m σ => match xi m σ with
      | some (.ok o, σ) => (match iterA K σ o with
        | some vs => evFor K FT N d ks vs ib m σ
        | none => none)
      | _ => none) := by
  intro m σ r g mm s Q E hr st fin
  show wpS _ _ (standAt pos >>= fun _ => eval iter c.env >>= fun x => foldedSetIterable iter c.env x >>= fun x => standAt iter.pos >>= fun _ => holding [x] (pyIter x) >>= fun it => runOwn (.forLoop t it b [] c.env) c.env) _ _ _
  dsimp only at hr
  split at hr <;> try (cases hr; done)
  rename_i o σ₁ h1
  refine wpS_stand (wpS_bind (hi m h1 st ⟨fun _ q u g1 h1 tk1 le1 I1 hu => ?_, fun _ q => nomatch q⟩))
  cases q
  rw [hfold]
  split at hr <;> try (cases hr; done)
  rename_i vs hvs
  refine wpS_bind (wpS_pure (wpS_stand (wpS_bind (wpS_holding (wpS.of (it_start (s := { s with heap := h1, toks := tk1 }) X I1 hvs hu fun it src h2 hS I2 => ?_))))))
  refine wpS_runOwn (h := none) ?_ none_bp
  show codeS (model prog w) c.A _ _ _
  obtain ⟨outer, hfr⟩ := hfr
  obtain ⟨envs, hfr', hFr⟩ := st.F
  rw [hfr] at hfr'
  cases hfr'
  exact for_loop (s := s) X C T hfr hFr st.R hb N (Nat.le_refl _) vs 0 m σ₁ r g1 mm h2 tk1 hr rfl I2 (st.M.mono le1) hS (fin.later le1)

theorem subS_forRange {x r : Str} {k : Nat} {px pr pos cpos : Pos} {hi : Expr} {b : List Stmt} {ib : List IS} {N : Nat} {xi : Lo → List TO → R AV} {p : Program} {loose : List Str} {mean : ExcName → Option Value} {mg mb : Str → Option Value}
    (O : TopOk K p loose mean mg mb g₀) (C : CxOk c) (hx : locIx c.locs c.sc x = some k) (hr : c.sc.names.lookup r = some .globalImplicit) (hd : r ≠ Str.ofString "__debug__") (hv : globV K r = some (.type "range")) (hhi : ∀ env, starEach [hi] env = [(false, eval hi env)])
    (hfr : ∃ outer, c.A.frames = some (c.env :: outer)) (hh : ∀ m, Sub prog w VR g₀ c fr d m (eval hi c.env) (xi m)) (hb : ∀ k < N, ∀ fr', SubS prog w g₀ c fr' d (execs b c.env) (fun m σ => evSs K FT k d ib m σ)) :
    SubS prog w g₀ c fr d (exec (.For (.Name x px) (.Call (.Name r pr) [hi] [] cpos) b [] pos) c.env) (fun m σ => match xi m σ with
      | some (.ok (.int h), σ) => if 0 ≤ h ∧ h ≤ 100000 then evFor K FT N d [k] ((List.range h.toNat).map fun i => AV.int (Int.ofNat i)) ib m σ else none
      | _ => none) := by
  intro m σ r' g mm s Q E hr' st fin
  show wpS _ _ (standAt pos >>= fun _ => eval (.Call (.Name r pr) [hi] [] cpos) c.env >>= fun y => foldedSetIterable (.Call (.Name r pr) [hi] [] cpos) c.env y >>= fun y => standAt cpos >>= fun _ => holding [y] (pyIter y) >>= fun it => runOwn (.forLoop (.Name x px) it b [] c.env) c.env) _ _ _
  dsimp only at hr'
  split at hr' <;> try (cases hr'; done)
  rename_i h σ₁ h1
  split at hr' <;> try (cases hr'; done)
  rename_i hb0
  refine wpS_stand (wpS_bind ?_)
  show wpS _ _ (eval (.Name r pr) c.env >>= fun f => callWith cpos f [] (backTo cpos (starEach [hi] c.env)) []) _ _ _
  refine wpS_bind (wpS.of (name_global O C st hr hd hv ?_))
  refine callWithS (by rw [hhi]; rfl) ?_
  rw [hhi]
  show wpS _ _ (eval hi c.env >>= fun v => (pure [v] : Sem (List Value)) >>= fun here => holding here (spliced []) >>= fun r => pure (here ++ r)) _ _ _
  refine wpS_bind (hh m h1 st ⟨fun _ q u g1 h1 tk1 le1 I1 hu => ?_, fun _ q => nomatch q⟩)
  cases q
  refine wpS_bind (wpS_pure (wpS_bind (wpS_holding (wpS_pure (wpS_pure ?_)))))
  obtain ⟨t0, rfl⟩ := hu
  refine ⟨keeper_plain (by intro a; nofun), wpS.of (call_range_1 ?_)⟩
  refine wpS_bind (wpS_pure (wpS_stand (wpS_bind (wpS_holding (wpS.of (wpAny_pyIter_range (IsRange.new _ _ _ _ _ _ _) (small_one (by decide) (by decide) (by omega) (by omega)) ?_))))))
  refine wpS_runOwn (h := none) ?_ none_bp
  show codeS (model prog w) c.A _ _ _
  obtain ⟨outer, hfr⟩ := hfr
  obtain ⟨envs, hfr', hFr⟩ := st.F
  rw [hfr] at hfr'
  cases hfr'
  have kp : ∀ (o : Obj) b o', h1.get? b = some o' → (h1.push o).get? b = some o' := fun o b o' z => Heap.get?_push_of_some _ z
  have I2 := I1.grow (kp { cls := .type "range", data := .fields #[.int 0 tk1, .int h t0, .int 1 (tk1 + 1)] })
  have hsz : Builtin.Range.rangeSize 0 h 1 = ((h.toNat : Nat) : Int) := by rw [rangeSize_one]; split <;> omega
  have I3 := I2.push (h' := (h1.push { cls := .type "range", data := .fields #[.int 0 tk1, .int h t0, .int 1 (tk1 + 1)] }).push { cls := .type "range_iterator", data := .fields #[rawInt 0, rawInt (Builtin.Range.rangeSize 0 h 1), rawInt 1] }) (m := itP (.range h.toNat) 0) (fun b o z => Heap.get?_push_of_some _ z) (get_size _) I2.size_le ⟨_, Heap.get?_push_size _ rfl, by rw [hsz]; show _ = _; simp⟩
  have le2 := le1.trans (I1.grown_le (kp { cls := .type "range", data := .fields #[.int 0 tk1, .int h t0, .int 1 (tk1 + 1)] }))
  exact for_loop (s := s) O.X C (.name hx) hfr hFr st.R hb N (Nat.le_refl _) _ 0 m σ₁ r' _ mm _ _ hr' rfl I3 (st.M.mono le2) rfl (fin.later le2)
end
end Mine
end

section
open PySem PySem.W PySem.Calls PyProof.Rows
set_option maxRecDepth 100000
namespace Mine

theorem six_of {vs : Array Value} (h : vs.size = 6) (h1 : vs[1]? = some .none) (h2 : vs[2]? = some .none) : ∃ a b c d, vs = #[a, .none, .none, b, c, d] := by
  obtain ⟨l⟩ := vs
  obtain ⟨a0, l, rfl⟩ := List.exists_cons_of_length_eq_add_one (n := 5) h
  obtain ⟨a1, l, rfl⟩ := List.exists_cons_of_length_eq_add_one (n := 4) (Nat.succ.inj h)
  obtain ⟨a2, l, rfl⟩ := List.exists_cons_of_length_eq_add_one (n := 3) (Nat.succ.inj (Nat.succ.inj h))
  obtain ⟨a3, l, rfl⟩ := List.exists_cons_of_length_eq_add_one (n := 2) (Nat.succ.inj (Nat.succ.inj (Nat.succ.inj h)))
  obtain ⟨a4, l, rfl⟩ := List.exists_cons_of_length_eq_add_one (n := 1) (Nat.succ.inj (Nat.succ.inj (Nat.succ.inj (Nat.succ.inj h))))
  obtain ⟨a5, l, rfl⟩ := List.exists_cons_of_length_eq_add_one (n := 0) (Nat.succ.inj (Nat.succ.inj (Nat.succ.inj (Nat.succ.inj (Nat.succ.inj h)))))
  obtain rfl := List.eq_nil_of_length_eq_zero (Nat.succ.inj (Nat.succ.inj (Nat.succ.inj (Nat.succ.inj (Nat.succ.inj (Nat.succ.inj h))))))
  obtain rfl : a1 = .none := by simpa using h1
  obtain rfl : a2 = .none := by simpa using h2
  exact ⟨a0, a3, a4, a5, rfl⟩

section
variable {M : Model} {A : Around} {E : Value → Shared → Prop} {env : Env}
variable {nm q : Str} {C N : Addr} {bs bm : List Value} {hdct : Bool} {sn : List Str} {sub : List Value} {ab : Bool} {col : Option Bool} {dd : Option Addr} {k0 k1 k2 k3 k5 : Option Value} {newId : String}

theorem raise_val {s : Shared} {x : Sem Value} {Q : Flow → Shared → Prop} (hm : ExcMro bm)
    (h : wpS M A x (fun v s₁ => ∃ e dx sl a b c d, v = .ref e ∧ s₁.heap.get? C = some (excClassObj nm q C N bs bm hdct sn sub ab col dd k0 k1 k2 k3 k5 newId) ∧
      s₁.heap.get? e = some { cls := .ref C, dict := some dx, data := .fields #[a, .none, .none, b, c, d], slots := sl } ∧ wpAny M A (raiseNew (.ref e) : Sem Flow) Q E s₁) E s) :
    wpS M A (raiseStmt env (some x) none) Q E s := by
  have hcB : (Value.ref C :: bm).contains (.type "BaseException") = true := by rw [List.contains_cons, hm.base, Bool.or_true]
  unfold raiseStmt
  refine wpS_bind (wpS_q h fun v s₁ h₁ => wpS.of ?_)
  refine cont fun PP kq => ?_
  obtain ⟨e, dx, sl, a, b, c, d, rfl, hC, he, hE⟩ := h₁
  obtain ⟨hp, g, d, tk, os⟩ := s₁
  refine kq ?_
  repeat (first | with_reducible refine wpAny_loadPart_at he ?_ | with_reducible refine wpAny_loadPart_at hC ?_ | (with_reducible refine wpAny_isSubtype_exc hC ?_; rw [hcB]) | wp_step)
  exact hE
end

section
variable {prog : Program} {w : World} {K : Frag} {FT : Addr → Option Fn} {g₀ : Heap} {c : Cx} {fr : List Fm} {d : Nat}

theorem subS_raise {e : Expr} {pos : Pos} {xa : Lo → List TO → R AV} (X : K.In g₀) (W : ClsOk K) (C : CxOk c) (ha : ∀ m, Sub prog w VR g₀ c fr d m (eval e c.env) (xa m)) :
    SubS prog w g₀ c fr d (exec (.Raise (some e) none pos) c.env) (fun m σ => match xa m σ with
      | some (.ok (.loc i), σ) => (match σ[i]? with
        | some (.exc C a .fresh) => if C = 59 ∨ C = 71 ∨ C = 83 then some (.exc i, m, σ.set i (.exc C a .bare)) else none
        | _ => none)
      | _ => none) := by
  intro m σ r g mm s Q E hr st fin
  dsimp only at hr
  split at hr <;> try (cases hr; done)
  rename_i i σ₁ h1
  split at hr <;> try (cases hr; done)
  rename_i D a h2
  split at hr <;> try (cases hr; done)
  rename_i hD
  cases hr
  refine cont fun PP kq => ?_
  obtain ⟨nm, q, N, bs, bm, hdct, sn, sub, ab, col, dd, k0, k1, k2, k3, k5, hK, hm⟩ := (W.exc D hD).obj
  refine kq ?_
  show wpS _ _ (standAt pos >>= fun _ => raiseStmt c.env (some (eval e c.env >>= fun v => standAt pos >>= fun _ => pure v)) none) _ _ _
  refine wpS_stand (raise_val (C := D) (nm := nm) (q := q) (N := N) (bs := bs) (bm := bm) (hdct := hdct) (sn := sn) (sub := sub) (ab := ab) (col := col) (dd := dd) (k0 := k0) (k1 := k1) (k2 := k2) (k3 := k3) (k5 := k5) (newId := "Exception.__new__") hm (wpS_bind (ha m h1 st ⟨fun _ q u g1 h1 tk1 le1 I1 hu => ?_, fun _ q => nomatch q⟩)))
  cases q
  refine wpS_stand (wpS_pure ?_)
  obtain ⟨x, rfl, l⟩ := hu
  refine cont fun PP kq => ?_
  obtain ⟨x', l', dx, vs, sl, i1, t1, v1, i2, t2, t2', n, he, hf, h6, hn1, hn2⟩ := I1.so i _ h2
  rw [l] at l'; cases l'
  obtain ⟨a0, b0, c0, d0, rfl⟩ := six_of h6 hn1 hn2
  refine kq ?_
  have I2 := I1.set (t := .exc D a .bare) l (Heap.SameBut.refl _ _) ⟨dx, _, sl, i1, t1, v1, i2, t2, t2', n, he, hf, hn2⟩
  refine ⟨x, dx, sl, a0, b0, c0, d0, rfl, I1.fz _ _ (I1.base _ _ (X _ _ hK)), he, wpAny_raiseNew_none C.hh ?_⟩
  exact fin.ex i m _ rfl mm x g1 h1 tk1 le1 I2 (st.M.mono le1) l ⟨D, a, .bare, by rw [List.getElem?_set_self (I1.lo i x l).1], by decide⟩ (.inl ⟨_, _, he, rfl, rfl, rfl⟩)
end
end Mine
end

section
open PySem PySem.W PySem.Calls PyProof.Rows
set_option maxRecDepth 100000
namespace Mine

structure ExcRead (K : Frag) (C : Addr) : Prop where
  ga : findIn K (.ref C) "__getattribute__" = some (some (.builtin "BaseException.__getattribute__"))
  gk : findIn K (.ref C) "__getattr__" = some none
  at_ : findIn K (.ref C) "at" = some none
  cd : ∃ cd, clsIn K C = some cd ∧ cd.hasDict = true ∧ cd.mro.isEmpty = false ∧ cd.mro.contains (.type "BaseException") = true

section
variable {prog : Program} {w : World} {K : Frag} {A : Around} {E : Value → Shared → Prop} {s : Shared} {x C dx : Addr} {ox : Obj}

theorem exc_find (W : ExcRead K C) {h1 t1 v1 h2 t2 v2 n} : findObj K C (some (dictOf (excEs h1 t1 v1 h2 t2 v2) n)) "at" = some (.value v2) := by
  obtain ⟨cd, hc, hd, _⟩ := W.cd
  unfold findObj
  rw [hc, Option.bind_some, W.at_]
  simp only [Option.bind_some]
  unfold PySem.W.ownOf
  rw [if_pos hd]
  rfl

theorem exc_at {h1 : Int} {t1 : Tok} {v1 : Value} {h2 : Int} {t2 : Tok} {a : Int} {t2' : Tok} {n : Nat} {Q : Value → Shared → Prop} (X : K.In s.heap) (W : ExcRead K C) (I : InstAt s.heap x ox C (some (dictOf (excEs h1 t1 v1 h2 t2 (.int a t2')) n)))
    (h : Q (.int a t2') { s with toks := s.toks + 1 }) : wpAny (model prog w) A (getAttr (.ref x) "at" true) Q E s := by
  obtain ⟨cd, hc, hd, hne, hbase⟩ := W.cd
  have FB := PySem.F.attr_Exception
  have hx2 : (onTheHeap (Value.ref C) && Value.builtin "BaseException.__getattribute__" == Value.builtin "object.__getattribute__") = false := by
    rw [show (Value.builtin "BaseException.__getattribute__" == Value.builtin "object.__getattribute__") = false from by decide +kernel]; rfl
  unfold getAttr getAttrBy
  refine wpAny_bind (wpAny_mkText (wpAny_holding (wpAny_bind (I.type.here (s := { s with toks := s.toks + 1 }) (wpAny_bind ((looks_findIn X W.ga).here (s := { s with toks := s.toks + 1 }) ?_))))))
  dsimp only
  rw [hx2, if_neg (by decide)]
  unfold getAttrByItsOwn
  refine wpAny_bind ((looks_hook X (mc := .ref C) (r := none) W.gk).here (s := { s with toks := s.toks + 1 }) ?_)
  refine wpAny_bind (wpAny_attempt (wpAny_holding ?_))
  unfold callGetattribute
  rw [show (true && onTheHeap (Value.builtin "BaseException.__getattribute__")) = false from rfl, if_neg (by decide)]
  unfold boundAndCalled
  rw [FB.ga.bind]
  refine wpAny_bind (wpAny_pure ?_)
  have isI : Looks (model prog w) s.heap (isInstance (.ref x) (.type "BaseException")) true := I.type.andThen (looks_mroIn X (by unfold mroIn; rw [hc, Option.bind_some, if_neg (by rw [hne]; decide), hbase]))
  show wpAny _ _ (call (.builtin "BaseException.__getattribute__") [.ref x, .str "at" s.toks]) _ _ _
  refine wpAny_call (codeAny_call_builtin FB.ga.plain F.entry_bexc_ga (@check_slot (model prog w) _ _ { s with toks := s.toks + 1 } "BaseException.__getattribute__" "BaseException" "__getattribute__" (.ref x) [.str "at" s.toks] [] _ (by decide +kernel) (by decide +kernel) isI (F.args_bexc_ga _ _) ?_))
  unfold Builtin.«object.__getattribute__»
  refine wpAny_bind (wpAny_of_eq rfl ?_)
  dsimp only
  refine wpAny_bind (wpAny_of_eq rfl (wpAny_bind (I.type.here (s := { s with toks := s.toks + 1 }) (wpAny_bind ((looks_find X I (exc_find W)).here (s := { s with toks := s.toks + 1 }) ?_)))))
  exact wpAny_pure (wpAny_pure h)
end
end Mine
end

section
open PySem PySem.W PySem.Calls PyProof.Rows
set_option maxRecDepth 100000
namespace Mine

theorem MR.except {g : Gh} {locs : List Str} {m : Lo} {mm mm' : Str → Option Value} {n : Str} {j : Nat} (M : MR g locs m mm) (nd : locs.Nodup) (hj : locs.findIdx? (· == n) = some j) (h : ∀ y, y ≠ n → mm' y = mm y) : MR g locs (m.set j none) mm' := by
  obtain ⟨h1, h2, _⟩ := List.findIdx?_eq_some_iff_getElem.mp hj
  have h2 := eq_of_beq h2
  intro i y v hy hv
  rw [List.getElem?_set] at hv
  split at hv
  · split at hv <;> cases hv
  · rename_i e
    obtain ⟨u, hu, q⟩ := M i y v hy hv
    refine ⟨u, (h y ?_).trans hu, q⟩
    rintro rfl
    obtain ⟨hi, e2⟩ := List.getElem?_eq_some_iff.mp hy
    have P := List.pairwise_iff_getElem.mp nd
    rcases Nat.lt_trichotomy j i with z | z | z
    · exact P j i h1 hi z (h2.trans e2.symm)
    · exact e z
    · exact P i j hi h1 z (e2.trans h2.symm)

section
variable {M : Model} {A : Around} {E : Value → Shared → Prop} {h : Heap} {g : Array GenState} {d : Drawn} {t : Nat} {os : OsState}
variable {nm q : Str} {C N : Addr} {bs bm : List Value} {hdct : Bool} {sn : List Str} {sub : List Value} {ab : Bool} {col : Option Bool} {dd : Option Addr} {k0 k1 k2 k3 k5 : Option Value} {newId : String}
variable {nm' q' : Str} {C' N' : Addr} {bs' bm' : List Value} {hdct' : Bool} {sn' : List Str} {sub' : List Value} {ab' : Bool} {col' : Option Bool} {dd' : Option Addr} {k0' k1' k2' k3' k5' : Option Value} {newId' : String}

theorem exc_matches {e : Addr} {oe : Obj} {Q : Bool → Shared → Prop} (hC : h.get? C = some (excClassObj nm q C N bs bm hdct sn sub ab col dd k0 k1 k2 k3 k5 newId)) (hC' : h.get? C' = some (excClassObj nm' q' C' N' bs' bm' hdct' sn' sub' ab' col' dd' k0' k1' k2' k3' k5' newId'))
    (he : h.get? e = some oe) (hcls : oe.cls = .ref C') (hbase : bm.contains (.type "BaseException") = true) {b : Bool} (hb : (Value.ref C' :: bm').contains (.ref C) = b)
    (hq : Q b ⟨h, g, d, t, os⟩) : wpAny M A (excMatches (.ref e) (.ref C)) Q E ⟨h, g, d, t, os⟩ := by
  have hcB : (Value.ref C :: bm).contains (.type "BaseException") = true := by rw [List.contains_cons, hbase, Bool.or_true]
  have f := tc_notTuple
  unfold excMatches
  repeat (first | (with_reducible refine wpAny_loadPart_at he ?_; rw [hcls]) | with_reducible refine wpAny_loadPart_at hC ?_ | (with_reducible refine wpAny_isSubtype_exc hC ?_; rw [hcB]) | (with_reducible refine wpAny_isSubtype_exc hC' ?_; rw [hb]) | wp_step)
  cases b <;> (first | exact hq | (wp_walk; exact hq))

theorem raise_valA {s : Shared} {env : Env} {x : Sem Value} {Q : Flow → Shared → Prop} (hm : ExcMro bm)
    (h : wpAny M A x (fun v s₁ => ∃ e dx sl a b c d, v = .ref e ∧ s₁.heap.get? C = some (excClassObj nm q C N bs bm hdct sn sub ab col dd k0 k1 k2 k3 k5 newId) ∧
      s₁.heap.get? e = some { cls := .ref C, dict := some dx, data := .fields #[a, .none, .none, b, c, d], slots := sl } ∧ wpAny M A (raiseNew (.ref e) : Sem Flow) Q E s₁) E s) :
    wpAny M A (raiseStmt env (some x) none) Q E s := by
  have hcB : (Value.ref C :: bm).contains (.type "BaseException") = true := by rw [List.contains_cons, hm.base, Bool.or_true]
  unfold raiseStmt
  refine wpAny_bind (wpAny_mono h (fun v s₁ h₁ => ?_) fun _ _ z => z)
  refine cont fun PP kq => ?_
  obtain ⟨e, dx, sl, a, b, c, d, rfl, hC, he, hE⟩ := h₁
  obtain ⟨hp, g, d, tk, os⟩ := s₁
  refine kq ?_
  repeat (first | with_reducible refine wpAny_loadPart_at he ?_ | with_reducible refine wpAny_loadPart_at hC ?_ | (with_reducible refine wpAny_isSubtype_exc hC ?_; rw [hcB]) | wp_step)
  exact hE
end

theorem entry_unchain : entryFor table "proto.unchain" = some Builtin.«proto.unchain» := entryFor_of_tree (by kernel_rfl)
theorem raise_handled {prog : Program} {w : World} {A : Around} {E : Value → Shared → Prop} {s : Shared} {e h : Addr} {oe oh : Obj} {ws vs : Array Value} {Q : Flow → Shared → Prop} (hh : A.handled = some (.ref h)) (hne : h ≠ e)
    (hoh : s.heap.get? h = some oh) (hdh : oh.data = .fields vs) (h2 : vs[2]? = some .none) (hoe : s.heap.get? e = some oe) (hde : oe.data = .fields ws) (hz : 2 < ws.size)
    (hE : E (.ref e) { s with heap := s.heap.update e (Obj.mapFields (·.setIfInBounds 2 (.ref h))) }) : wpAny (model prog w) A (raiseNew (.ref e) : Sem Flow) Q E s := by
  unfold raiseNew
  refine wpAny_bind (wpAny_handled ?_)
  rw [hh]
  dsimp only
  rw [if_pos (by simp [hne])]
  refine wpAny_bind (wpAny_holding (wpAny_runValue (codeAny_builtin entry_unchain ?_)))
  unfold Builtin.«proto.unchain»
  dsimp only
  refine wpAny_bind (wpAny_field hoh hdh h2 ?_)
  refine wpAny_pure ?_
  refine wpAny_bind (wpAny_setField (x := .ref h) hoe hde hz (wpAny_throw hE))
end Mine
end

section
open PySem PySem.W PySem.Calls PyProof.Rows
set_option maxRecDepth 100000
namespace Mine

structure ExcAll (K : Frag) : Prop where
  ok : ∀ C, isExcC C → ExcOk K C
  rd : ∀ C, isExcC C → ExcRead K C
  only : ∀ C D, isExcC C → isExcC D → C ≠ D → ∀ nm q N bs bm hdct sn sub ab col dd k0 k1 k2 k3 k5, K.lookup C = some (excClassObj nm q C N bs bm hdct sn sub ab col dd k0 k1 k2 k3 k5 "Exception.__new__") → (Value.ref C :: bm).contains (.ref D) = false

section
variable {prog : Program} {w : World} {K : Frag} {p : Program} {loose : List Str} {mean : ExcName → Option Value} {mg mb : Str → Option Value} {g₀ : Heap} {c : Cx} {fr : List Fm} {d : Nat}

theorem glob_any {s : Shared} {A : Around} {x : Str} {pos : Pos} {a : Addr} {Q : Value → Shared → Prop} {E : Value → Shared → Prop} (O : TopOk K p loose mean mg mb g₀) (C : CxOk c) (k : ∀ b o, g₀.get? b = some o → s.heap.get? b = some o) (hx : c.sc.names.lookup x = some .globalImplicit) (hd : x ≠ Str.ofString "__debug__")
    (hv : globV K x = some (.ref a)) (h : Q (.ref a) s) : wpAny (model prog w) A (eval (.Name x pos) c.env) Q E s := by
  refine Calls.Name_function_global C.hk ((kindOf_eq C x).trans hx) ?_ (by simpa using hd)
  have hg : s.heap.Ns c.env.globals mg := C.glob ▸ O.T.g.keeps k
  unfold globV at hv
  split at hv
  · rename_i u e
    cases hv
    exact Calls.loadGlobal_global hg (mg_of O.X O.T.g e) h
  · rename_i e
    split at hv
    · cases hv
    · rename_i hn
      exact Calls.loadGlobal_builtin hg (mg_none_of O.X O.T.g e) (C.blt ▸ O.T.b.keeps k) ((O.T.builtins x hn).trans hv) h
  · cases hv

theorem local_any {s : Shared} {A : Around} {x : Str} {pos : Pos} {v : Value} {mm : Str → Option Value} {Q : Value → Shared → Prop} {E : Value → Shared → Prop} (C : CxOk c) (hn : s.heap.Ns c.L mm) (hx : c.sc.names.lookup x = some .local) (hd : x ≠ Str.ofString "__debug__")
    (hv : mm x = some v) (h : Q v s) : wpAny (model prog w) A (eval (.Name x pos) c.env) Q E s :=
  wpAny_Name (wpAny_loadName_local C.hk ((kindOf_eq C x).trans hx) (C.loc ▸ hn) hv h) (by simpa using hd)

theorem store_any {σ : List TO} {g : Gh} {P : Str → Option Value} {s : Shared} {A : Around} {x : Str} {u : Value} {Q : Unit → Shared → Prop} {E : Value → Shared → Prop} (C : CxOk c) (hx : c.sc.names.lookup x = some .local) (I : Inv g₀ g ((c.L, frmP P) :: fr) σ s.heap)
    (q : ∀ h', Inv g₀ g ((c.L, frmP fun y => if y = x then some u else P y) :: fr) σ h' → Q () { s with heap := h', toks := s.toks + 1 }) : wpAny (model prog w) A (storeName c.env x u) Q E s :=
  wpAny_storeName_local ((kindOf_eq C x).trans hx) (C.loc ▸ frmP.ns (I.fs _ (.head _)).1) (fun h' hn hs => q h' (I.store (frmP.of (C.loc ▸ hn)) (C.loc ▸ hs))) (by simp [C.hk])

theorem hand_test {s : Shared} {A : Around} {x : Str} {np pos : Pos} {D : Addr} {σ : List TO} {g : Gh} {fr' : List Fm} {i e : Nat} {C' : Addr} {a : Int} {xs : XS} {R : Result → Shared → Prop} (O : TopOk K p loose mean mg mb g₀) (W : ExcAll K) (C : CxOk c) (hx : c.sc.names.lookup x = some .globalImplicit) (hd : x ≠ Str.ofString "__debug__") (hv : globV K x = some (.ref D))
    (hD : isExcC D) (hC' : isExcC C') (I : Inv g₀ g fr' σ s.heap) (l : g.loc i = some e) (hσ : σ[i]? = some (.exc C' a xs)) (h : R (.ok (if C' = D then .brk else .next)) s) :
    codeAny (model prog w) A (.handlers (.ref e) [.ExceptHandler (some (.Name x np)) none [] pos] c.env) R s := by
  refine codeAny_handlers_test (glob_any O C (fun b o z => I.fz _ _ (I.base _ _ z)) hx hd hv ?_)
  refine cont fun PP kq => ?_
  obtain ⟨e', l', dx, vs, sl, i1, t1, v1, i2, t2, t2', n, he, _⟩ := I.so i _ hσ
  rw [l] at l'; cases l'
  obtain ⟨nm, q, N, bs, bm, hdct, sn, sub, ab, col, dd, k0, k1, k2, k3, k5, hK, hm⟩ := (W.ok D hD).obj
  obtain ⟨nm', q', N', bs', bm', hdct', sn', sub', ab', col', dd', k0', k1', k2', k3', k5', hK', hm'⟩ := (W.ok C' hC').obj
  obtain ⟨hp, gg, dr, tk, os⟩ := s
  refine kq ?_
  have X : K.In hp := O.X.keeps fun b o z => I.fz _ _ (I.base _ _ z)
  have hb : (Value.ref C' :: bm').contains (.ref D) = decide (C' = D) := by
    by_cases q : C' = D
    · subst q; simp
    · rw [W.only C' D hC' hD q _ _ _ _ _ _ _ _ _ _ _ _ _ _ _ _ hK', decide_eq_false q]
  refine exc_matches (X _ _ hK) (X _ _ hK') he rfl hm.base hb ?_
  by_cases q : C' = D
  · rw [if_pos q] at h; rw [decide_eq_true q]; exact h
  · rw [if_neg q] at h; rw [decide_eq_false q]; exact h
end
end Mine
end

section
open PySem PySem.W PySem.Calls PyProof.Rows
set_option maxRecDepth 100000
namespace Mine

section
variable {prog : Program} {w : World} {K : Frag} {p : Program} {loose : List Str} {mean : ExcName → Option Value} {mg mb : Str → Option Value} {g₀ : Heap} {c : Cx} {fr : List Fm} {d : Nat} {FT : Addr → Option Fn}

theorem hand_nil {s : Shared} {e i : Addr} {outer : List Env} {g : Gh} {fr' : List Fm} {σ : List TO} {Q : Flow → Shared → Prop} {E : Value → Shared → Prop} (C : CxOk c) (hFr : FrIn fr' (c.env :: outer)) (I : Inv g₀ g fr' σ s.heap) (l : g.loc i = some e) (hσ : Rsd σ i)
    (hx : ExTr g fr' s.heap e .none) (q : ∀ h', Inv g₀ g fr' σ h' → ExTr g fr' h' e (rawInt c.Lf) → E (.ref e) { s with heap := h' }) : wpAny (model prog w) c.A (handleBy (.ref e) c.env []) Q E s := by
  refine wpAny_handleBy_nil ?_
  unfold PySem.passOn
  refine cont fun PP kq => ?_
  obtain ⟨oe, vs, T, oT, ts, he, hd, hz, h1, r⟩ := id hx
  refine kq ?_
  refine wpAny_bind (wpAny_field he hd h1 ?_)
  rw [if_neg (by simp), C.frame]
  exact wpAny_bind (flight_ok (to := some c.Lf) hFr I l hσ hx fun h' I' t => wpAny_throw (q h' I' t))

theorem suite_none {s : Shared} {A : Around} {e i : Addr} {g : Gh} {σ : List TO} {mm : Str → Option Value} {x : Str} {k : Nat} {p1 p2 p3 pos : Pos} {e1 : Nat} {envs : List Env} {m : Lo} {R : Result → Shared → Prop} (C : CxOk c) (hx1 : locIx c.locs c.sc x = some k) (hFr : FrIn ((c.L, frmP mm) :: fr) envs) (I : Inv g₀ g ((c.L, frmP mm) :: fr) σ s.heap) (M : MR g c.locs m mm)
    (l : g.loc i = some e) (hσ : Rsd σ i) (hx : ExTr g ((c.L, frmP mm) :: fr) s.heap e .none) (q : ∀ mm' h' tk, Inv g₀ g ((c.L, frmP mm') :: fr) σ h' → MR g c.locs (m.set k (some .none)) mm' → R (.ok .next) { s with heap := h', toks := tk }) :
    codeAny (model prog w) A (.handlers (.ref e) [.ExceptHandler none none [.Assign [.Name x p1] (.Constant .none e1 p2) p3] pos] c.env) R s := by
  obtain ⟨h1, h2⟩ := locIx_some hx1
  refine codeAny_handlers_suite (flight_ok (to := none) hFr I l hσ hx fun h' I' t => ?_)
  refine wpAny_execs_cons (wpAny_Assign_Name (wpAny_Constant_none (store_any (s := { s with heap := h' }) C h1 I' fun h2' I2 => ?_)) rfl)
  exact wpAny_execs_nil (q _ h2' _ I2 (M.store C.nd h2 rfl))

theorem suite_at {s : Shared} {A B : Around} {e i : Addr} {g : Gh} {σ : List TO} {mm : Str → Option Value} {x n : Str} {k j : Nat} {p1 p2 p3 p4 pos : Pos} {envs : List Env} {m : Lo} {D : Addr} {a : Int} {xs : XS} {Q : Flow → Shared → Prop} {E E' : Value → Shared → Prop} (O : TopOk K p loose mean mg mb g₀) (W : ExcAll K) (C : CxOk c) (hD : isExcC D)
    (hx1 : locIx c.locs c.sc x = some k) (hn1 : locIx c.locs c.sc n = some j) (hkj : k ≠ j) (hnd : n ≠ Str.ofString "__debug__") (hFr : FrIn ((c.L, frmP mm) :: fr) envs) (I : Inv g₀ g ((c.L, frmP mm) :: fr) σ s.heap) (M : MR g c.locs m mm)
    (l : g.loc i = some e) (hi : σ[i]? = some (.exc D a xs)) (hσ : Rsd σ i) (hx : ExTr g ((c.L, frmP mm) :: fr) s.heap e .none) (q : ∀ mm' h' tk, Inv g₀ g ((c.L, frmP mm') :: fr) σ h' → MR g c.locs ((m.set k (some (.int a))).set j none) mm' → Q .next { s with heap := h', toks := tk }) :
    codeAny (model prog w) A (.handlers (.ref e) [.ExceptHandler none (some n) [.Assign [.Name x p1] (.Attribute (.Name n p2) "at" p3) p4] pos] c.env)
      (fun r s₂ => match r with
        | .ok f => wpAny (model prog w) B (do bindName c.env n .none; unbindBehindTheSuite c.env n pos) (fun _ s₃ => Q f s₃) E s₂
        | .error y => E' y s₂) s := by
  obtain ⟨h1, h2⟩ := locIx_some hx1
  obtain ⟨n1, n2⟩ := locIx_some hn1
  have hxn : x ≠ n := by
    rintro rfl
    rw [h2] at n2; cases n2
    exact hkj rfl
  refine codeAny_handlers_suite_as (flight_ok (to := none) hFr I l hσ hx fun h3 I3 t => ?_)
  refine store_any (s := { s with heap := h3 }) C n1 I3 fun h4 I4 => ?_
  refine cont fun PP kq => ?_
  obtain ⟨e', l', dx, vs, sl, i1, t1, v1, i2, t2, t2', nn, he, hf, _⟩ := I4.so i _ hi
  rw [l] at l'; cases l'
  refine kq ?_
  have X4 : K.In h4 := O.X.keeps fun b o z => I4.fz _ _ (I4.base _ _ z)
  have hns4 := frmP.ns (I4.fs _ (.head _)).1
  refine wpAny_execs_cons (wpAny_Assign_Name (s := { s with heap := h4, toks := s.toks + 1 }) ?_ rfl)
  show wpAny _ _ (eval (.Name n p2) c.env >>= fun o => standAt p3.atName >>= fun _ => holding [o] (getAttr o "at" true) >>= fun r => letTemporaryGo (.Name n p2) o r >>= fun _ => pure r) _ _ _
  refine wpAny_bind (local_any (s := { s with heap := h4, toks := s.toks + 1 }) C hns4 n1 hnd (by simp; rfl) (wpAny_bind (wpAny_standAt (wpAny_bind (wpAny_holding ?_)))))
  refine exc_at (s := { s with heap := h4, toks := s.toks + 1 }) X4 (W.rd D hD) ⟨he, rfl, rfl, I4.fz _ _ hf⟩ ?_
  refine wpAny_bind (wpAny_pure (wpAny_pure (store_any (s := { s with heap := h4, toks := s.toks + 1 + 1 }) C h1 I4 fun h5 I5 => ?_)))
  refine wpAny_execs_nil ?_
  refine wpAny_bind (wpAny_bindName (store_any (s := { s with heap := h5, toks := s.toks + 1 + 1 + 1 }) C n1 I5 fun h6 I6 => ?_))
  unfold unbindBehindTheSuite
  have hns6 := frmP.ns (I6.fs _ (.head _)).1
  refine wpAny_onRaise (wpAny_unbindName_local (s := { s with heap := h6, toks := s.toks + 1 + 1 + 1 + 1 }) ((kindOf_eq C n).trans n1) (C.loc ▸ hns6) (by simp; rfl) (by simp [C.hk]) fun h7 u hn7 hs7 => ?_)
  have I7 := I6.store (frmP.of (C.loc ▸ hn7)) (C.loc ▸ hs7)
  refine q _ h7 _ I7 ((M.store (v := .int a) (u := .int a t2') C.nd h2 ⟨t2', rfl⟩).except C.nd n2 fun y hy => ?_)
  simp [hy]

theorem suite_raise {s : Shared} {A : Around} {e i : Addr} {g : Gh} {σ : List TO} {mm : Str → Option Value} {x y : Str} {msg : Str} {j : Nat} {p1 p2 p3 p4 p5 pos : Pos} {e1 : Nat} {outer : List Env} {m : Lo} {D D' : Addr} {a b : Int} {R : Result → Shared → Prop} (O : TopOk K p loose mean mg mb g₀) (W : ExcAll K) (C : CxOk c) (hD : isExcC D)
    (hA : A.handled = some (.ref e)) (hfr : A.frames = some (c.env :: outer)) (hroom : A.depth + 1 < recursionLimit) (hx1 : c.sc.names.lookup x = some .globalImplicit) (hxd : x ≠ Str.ofString "__debug__") (hv : globV K x = some (.ref D)) (hy1 : locIx c.locs c.sc y = some j) (hyd : y ≠ Str.ofString "__debug__")
    (hFr : FrIn ((c.L, frmP mm) :: fr) (c.env :: outer)) (I : Inv g₀ g ((c.L, frmP mm) :: fr) σ s.heap) (M : MR g c.locs m mm) (hb : m[j]? = some (some (.int b)))
    (l : g.loc i = some e) (hi : σ[i]? = some (.exc D' a .bare)) (hx : ExTr g ((c.L, frmP mm) :: fr) s.heap e .none)
    (q : ∀ e' g' h' tk, g.le g' → Inv g₀ g' ((c.L, frmP mm) :: fr) (σ ++ [.exc D b .any]) h' → g'.loc σ.length = some e' → ExTr g' ((c.L, frmP mm) :: fr) h' e' (rawInt c.Lf) → R (.error (.ref e')) { s with heap := h', toks := tk }) :
    codeAny (model prog w) A (.handlers (.ref e) [.ExceptHandler none none [.Raise (some (.Call (.Name x p1) [.Constant (.str msg) e1 p2, .Name y p3] [] p4)) none p5] pos] c.env) R s := by
  obtain ⟨y1, y2⟩ := locIx_some hy1
  have hσ : Rsd σ i := ⟨D', a, .bare, hi, by decide⟩
  obtain ⟨u, hu, t0, rfl⟩ := M j y _ (by
    obtain ⟨h1, h2, _⟩ := List.findIdx?_eq_some_iff_getElem.mp y2
    rw [List.getElem?_eq_getElem h1, eq_of_beq h2]) hb
  refine codeAny_handlers_suite (flight_ok (to := none) hFr I l hσ hx fun h3 I3 t => ?_)
  refine cont fun PP kq => ?_
  obtain ⟨nm, q', N, bs, bm, hdct, sn, sub, ab, col, dd, k0, k1, k2, k3, k5, hK, hm⟩ := (W.ok D hD).obj
  refine kq ?_
  have k3' : ∀ b o, g₀.get? b = some o → h3.get? b = some o := fun b o z => I3.fz _ _ (I3.base _ _ z)
  have hns3 := frmP.ns (I3.fs _ (.head _)).1
  refine wpAny_execs_cons ?_
  rw [arm_exec_Raise]
  refine wpAny_bind (wpAny_standAt ?_)
  refine raise_valA (C := D) (nm := nm) (q := q') (N := N) (bs := bs) (bm := bm) (hdct := hdct) (sn := sn) (sub := sub) (ab := ab) (col := col) (dd := dd) (k0 := k0) (k1 := k1) (k2 := k2) (k3 := k3) (k5 := k5) (newId := "Exception.__new__") hm ?_
  refine wpAny_bind ?_
  show wpAny _ _ (eval (.Name x p1) c.env >>= fun f => callWith p4 f [] (backTo p4 (starEach [.Constant (.str msg) e1 p2, .Name y p3] c.env)) []) _ _ _
  refine wpAny_bind (glob_any (s := { s with heap := h3 }) O C k3' hx1 hxd hv ?_)
  refine callWith_K (O.X.keeps k3') (W.ok D hD).keep ?_
  show wpAny _ _ (spliced [(false, eval (.Constant (.str msg) e1 p2) c.env), (false, eval (.Name y p3) c.env)]) _ _ _
  refine spliced_two (wpAny_Constant_str ?_)
  refine local_any (s := { s with heap := h3, toks := s.toks + 1 }) C hns3 y1 hyd hu ⟨O.X.keeps k3', ?_⟩
  refine exc_made (x := msg.cps.toList) (a := b) (s := { s with heap := h3, toks := s.toks + 1 }) O (W.ok D hD) hroom I3 I3.size_le ⟨s.toks, by simp⟩ ⟨t0, rfl⟩ fun e' g1 h4 tk4 le4 I4 l4 _ => ?_
  refine cont fun PP kq => ?_
  obtain ⟨x'', l'', dx, vs, sl, i1, t1, v1, i2, t2, t2', n, he, hf, h6, hn1, hn2⟩ := I4.so σ.length (.exc D b .fresh) (by simp)
  rw [l4] at l''; cases l''
  obtain ⟨a0, b0, c0, d0, rfl⟩ := six_of h6 hn1 hn2
  obtain ⟨x3, l3, dx3, vs3, sl3, _, _, _, _, _, _, _, he3, _, hc3⟩ := I4.so i (.exc D' a .bare) (by rw [List.getElem?_append_left (I.lo i e l).1]; exact hi)
  refine kq ?_
  rw [le4.2 i e l] at l3; cases l3
  have hne : e ≠ e' := fun q => by
    subst q
    have := I4.inj i σ.length e (le4.2 i e l) l4
    exact absurd (this ▸ (I.lo i e l).1) (Nat.lt_irrefl _)
  refine wpAny_bind (wpAny_standAt (wpAny_pure ?_))
  refine ⟨e', dx, sl, a0, b0, c0, d0, rfl, I4.fz _ _ (I4.base _ _ (O.X _ _ hK)), he, ?_⟩
  refine raise_handled (s := { s with heap := h4, toks := tk4 }) hA hne he3 rfl hc3 he rfl (by simp) ?_
  have he5 := Heap.get?_update_self (Obj.mapFields (·.setIfInBounds 2 (.ref e))) he rfl
  have I5 := I4.set (t := .exc D b .any) l4 (Heap.SameBut.update h4 e' (Obj.mapFields (·.setIfInBounds 2 (.ref e)))) ⟨dx, _, sl, i1, t1, v1, i2, t2, t2', n, he5, hf, trivial⟩
  rw [show (σ ++ [TO.exc D b .fresh]).set σ.length (.exc D b .any) = σ ++ [.exc D b .any] by simp] at I5
  have hσ5 : Rsd (σ ++ [.exc D b .any]) σ.length := ⟨D, b, .any, by simp, by decide⟩
  refine note_ok (s := { s with heap := h4.update e' (Obj.mapFields (·.setIfInBounds 2 (.ref e))), toks := tk4 }) hfr C.frame hFr I5 l4 hσ5 (.inl ⟨_, _, he5, rfl, rfl, rfl⟩) fun h6 I6 t6 => ?_
  exact q e' g1 h6 tk4 le4 I6 l4 t6

theorem hand_ok (O : TopOk K p loose mean mg mb g₀) (W : ExcAll K) (C : CxOk c) {outer : List Env} (hfr : c.A.frames = some (c.env :: outer)) (hR : c.A.depth + 1 < recursionLimit) : ∀ {hs : List ExceptHandler} {ihs : List (Addr × Option Nat × HS)}, CH K c.locs c.sc hs ihs →
    ∀ {i e : Addr} {m : Lo} {σ : List TO} {r : Out × Lo × List TO} {g : Gh} {mm : Str → Option Value} {s : Shared} {Q : Flow → Shared → Prop} {E : Value → Shared → Prop}, evHs ihs i m σ = some r → Inv g₀ g ((c.L, frmP mm) :: fr) σ s.heap → MR g c.locs m mm → (∀ mm', FrIn ((c.L, frmP mm') :: fr) (c.env :: outer)) →
      g.loc i = some e → Rsd σ i → ExTr g ((c.L, frmP mm) :: fr) s.heap e .none → FinS g₀ c fr r g s Q E → wpAny (model prog w) c.A (handleBy (.ref e) c.env hs) Q E s := by
  intro hs ihs hc
  induction hc with
  | nil =>
    intro i e m σ r g mm s Q E hr I M hFr l hσ hx fin
    cases hr
    exact hand_nil C (hFr mm) I l hσ hx fun h' I' t => fin.ex i m σ rfl mm e g h' s.toks (Gh.le.refl g) I' M l hσ (.inr (.inr t))
  | @cons x np pos name body D k sx hs ihs' hdb hx1 hv hk hsx hc' ih =>
      intro i e m σ r g mm s Q E hr I M hFr l hσ hx fin
      have hdb := noDbg_ne hdb
      replace hr : (excAt σ i).bind _ = some r := hr
      obtain ⟨⟨C', a, xs⟩, hi, q1⟩ := bind_of hr
      clear hr
      replace hi := exc_of hi
      dsimp only at q1
      split at q1
      case isFalse => cases q1
      rename_i hD
      obtain ⟨hD, hC'⟩ := hD
      refine wpAny_handleBy_cons (hand_test O W C hx1 hdb hv hD hC' I l hi ?_) (by intro q; cases q)
      split at q1
      · rename_i hCD
        rw [if_pos hCD]
        subst hCD
        cases hsx with
        | atF hyd hk1 hj1 =>
          -- found = fault.at
          have hyd := noDbg_ne hyd
          cases hk with
          | some hj =>
            rw [hj1] at hj; cases hj
            dsimp only [evU, Option.bind_some] at q1
            split at q1
            case isFalse => cases q1
            rename_i hc2
            cases q1
            exact suite_at O W C hC' hk1 hj1 hc2.2 hyd (hFr mm) I M l hi hσ hx fun mm' h' tk I' M' => fin.nxt _ _ rfl mm' g h' tk (Gh.le.refl g) I' M'
        | none hk1 =>
          -- found = None
          cases hk with
          | some hj => cases q1
          | none =>
            cases q1
            exact suite_none C hk1 (hFr mm) I M l hσ hx fun mm' h' tk I' M' => fin.nxt _ _ rfl mm' g h' tk (Gh.le.refl g) I' M'
        | @raise _ _ y msg p1 p2 p3 p4 p5 _ j1 D hdC hdy hxl hvl hj1 =>
          have hdC := noDbg_ne hdC
          have hdy := noDbg_ne hdy
          cases hk with
          | some hj => cases q1
          | none =>
            obtain ⟨v, hv1, q2⟩ := bind_of (show ((m[j1]?).bind _) = some r from q1)
            clear q1
            obtain ⟨v', hv2, q3⟩ := bind_of q2
            obtain ⟨b, hb, q4⟩ := bind_of q3
            rw [hv2, int_of hb] at hv1
            clear q2 q3
            split at q4
            case isFalse => cases q4
            rename_i hD2
            cases q4
            obtain ⟨hDD, rfl⟩ := hD2
            refine suite_raise (A := c.A.mark (some (.ref e))) (outer := outer) O W C hDD rfl hfr hR hxl hdC hvl hj1 hdy (hFr mm) I M hv1 l hi hx fun e' g' h' tk le I' l' t => ?_
            refine came_ok (s := { s with heap := h', toks := tk }) (outer := outer) hfr C.frame (hFr mm) I' l' ⟨D, b, .any, by simp, by decide⟩ t fun h'' I'' t'' => ?_
            exact fin.ex σ.length m _ rfl mm e' g' h'' tk le I'' (M.mono le) l' ⟨D, b, .any, by simp, by decide⟩ (.inr (.inr t''))
      · rename_i hCD
        rw [if_neg hCD]
        exact ih q1 I M hFr l hσ hx fin
end
end Mine
end

section
open PySem PySem.W PySem.Calls PyProof.Rows
set_option maxRecDepth 100000
namespace Mine

section
variable {prog : Program} {w : World} {K : Frag} {p : Program} {loose : List Str} {mean : ExcName → Option Value} {mg mb : Str → Option Value} {g₀ : Heap} {c : Cx} {fr : List Fm} {d : Nat} {FT : Addr → Option Fn}

theorem subS_try {b : List Stmt} {h : ExceptHandler} {hs : List ExceptHandler} {pos : Pos} {ihs : List (Addr × Option Nat × HS)} {yb : Lo → List TO → RS} (O : TopOk K p loose mean mg mb g₀) (W : ExcAll K) (C : CxOk c) (hfr : ∃ outer, c.A.frames = some (c.env :: outer)) (hc : CH K c.locs c.sc (h :: hs) ihs)
    (hb : SubS prog w g₀ c fr d (execs b c.env) yb) :
    SubS prog w g₀ c fr d (exec (.Try b (h :: hs) [] [] pos) c.env) (fun m σ => match yb m σ with
      | some (.exc i, m, σ) => evHs ihs i m σ
      | r => r) := by
  intro m σ r g mm s Q E hr st fin
  obtain ⟨outer, hfr⟩ := hfr
  rw [arm_exec_Try]
  refine wpS_stand ?_
  unfold tryStmt
  simp only [List.isEmpty_nil, if_true, List.isEmpty_cons, Bool.false_and, Bool.false_eq_true, if_false]
  obtain ⟨envs, hfr', hFr⟩ := st.F
  rw [hfr] at hfr'
  cases hfr'
  have hF : ∀ mm', FrIn ((c.L, frmP mm') :: fr) (c.env :: outer) := fun mm' => hFr.head (Slt.frm mm')
  dsimp only at hr
  split at hr
  · rename_i i m₁ σ₁ e
    refine wpS_bind (wpS_attempt (hb e st ⟨fun _ _ q => (nomatch q), fun _ _ _ q => (nomatch q), fun j m' σ' q mm' e g' h' tk le I M l hσ hE => ?_⟩))
    cases q
    refine wpS_bind (wpS.of (note_ok (s := { s with heap := h', toks := tk }) hfr C.frame (hF mm') I l hσ hE fun h2 I2 t2 => ?_))
    refine wpS_bind (wpS.of (flight_ok (s := { s with heap := h2, toks := tk }) (to := none) (hF mm') I2 l hσ t2 fun h3 I3 t3 => ?_))
    exact wpS.of (hand_ok (s := { s with heap := h3, toks := tk }) O W C hfr (room_e st.R.1) hc hr I3 M hF l hσ t3 (fin.later le))
  · rename_i x hne
    refine wpS_bind (wpS_attempt (hb hr st ⟨fun m' σ' q mm' g' h' tk le I M => ?_, fun v m' σ' q mm' u g' h' tk le I ru => ?_, fun i m' σ' q => ?_⟩))
    · exact wpS_pure (fin.nxt m' σ' q mm' g' h' tk le I M)
    · exact wpS_pure (fin.ret v m' σ' q mm' u g' h' tk le I ru)
    · subst q; exact (hne _ _ _ hr).elim
end
end Mine
end

section
open PySem PySem.W PySem.Calls PyProof.Rows
set_option maxRecDepth 100000
namespace Mine

theorem compCx_ok {c : Cx} {csc : Scope} {L : Addr} {x : Str} (C : CxOk c) (h : compOk csc x = true) : CxOk (compCx c csc L x) where
  hk := (compOk_parts h).1
  names := rfl
  loc := rfl
  glob := C.glob
  blt := C.blt
  frame := C.frame
  nd := by simp
  hh := C.hh

noncomputable def Top1 (c : Cx) : Prop := ∃ outer, c.A.frames = some (c.env :: outer)

structure All (prog : Program) (w : World) (K : Frag) (FT : Addr → Option Fn) (g₀ : Heap) (n : Nat) : Prop where
  e : ∀ d c fr m e ie, CxOk c → CE K c.locs c.sc e ie → Sub prog w VR g₀ c fr d m (eval e c.env) (fun σ => evE K FT n d m ie σ)
  t : ∀ d c fr m e ie, CxOk c → CE K c.locs c.sc e ie → Sub prog w BR g₀ c fr d m (isTrue e c.env (eval e c.env)) (fun σ => evT K FT n d m ie σ)
  al : ∀ d c fr m op es ies, CxOk c → CEs K c.locs c.sc es ies → Sub prog w BR g₀ c fr d m (allTrue op es c.env) (fun σ => evAll K FT n d m (op == .And) ies σ)
  bo : ∀ d c fr m op pos e es ies, CxOk c → CEs K c.locs c.sc (e :: es) ies → Sub prog w VR g₀ c fr d m (boolOp pos op (evalEach (e :: es) c.env)) (fun σ => bnd (evAll K FT n d m (op == .And) ies σ) fun b σ => ret (.bool b) σ)
  es : ∀ d c fr m pos es ies, CxOk c → CEs K c.locs c.sc es ies → Sub prog w VRs g₀ c fr d m (spliced (backTo pos (starEach es c.env))) (fun σ => evEs K FT n d m ies σ)
  o : ∀ d c fr m e ie, CxOk c → CO K c.locs c.sc e ie → Sub prog w OptR g₀ c fr d m (valueOrNone (evalOpt e c.env)) (fun σ => evO K FT n d m ie σ)
  fn : ∀ d c fr m, CxOk c → FnOk prog w g₀ c fr d m (fun a as σ => evFn K FT n d a as σ)
  s : ∀ d c fr st is, CxOk c → Top1 c → CS K c.locs c.sc st is → SubS prog w g₀ c fr d (exec st c.env) (fun m σ => evS K FT n d is m σ)
  ss : ∀ d c fr l il, CxOk c → Top1 c → CSs K c.locs c.sc l il → SubS prog w g₀ c fr d (execs l c.env) (fun m σ => evSs K FT n d il m σ)

section
variable {prog : Program} {w : World} {K : Frag} {FT : Addr → Option Fn} {p : Program} {loose : List Str} {mean : ExcName → Option Value} {mg mb : Str → Option Value} {g₀ : Heap}

theorem all_zero : All prog w K FT g₀ 0 where
  e := fun _ _ _ _ _ _ _ _ => fun hx => no_of hx
  t := fun _ _ _ _ _ _ _ _ => fun hx => no_of hx
  al := fun _ _ _ _ _ _ _ _ _ => fun hx => no_of hx
  bo := fun _ _ _ _ _ _ _ _ _ _ _ => fun hx => no_of hx
  es := fun _ _ _ _ _ _ _ _ _ => fun hx => no_of hx
  o := fun _ _ _ _ _ _ _ _ => fun hx => no_of hx
  fn := fun _ _ _ _ _ => fun hx => no_of hx
  s := fun _ _ _ _ _ _ _ _ => fun hx => no_of hx
  ss := fun _ _ _ _ _ _ _ _ => fun hx => no_of hx

theorem all_fn (hFT : ∀ a f, FT a = some f → CF K a f) {n : Nat} (O : TopOk K p loose mean mg mb g₀) (A : All prog w K FT g₀ n) : ∀ d c fr m, CxOk c → FnOk prog w g₀ c fr d m (fun a as σ => evFn K FT (n + 1) d a as σ) := by
  intro d c fr m C a as us σ r σ' g mm s Q E hx ha st fin
  cases d with
  | zero => exact no_of hx
  | succ d => exact fn_ok hFT O C (fun c' fr' C' hf bd ib hcs => A.ss d c' fr' bd ib C' hf hcs) hx ha st fin

theorem all_o {n : Nat} (A : All prog w K FT g₀ n) : ∀ d c fr m e ie, CxOk c → CO K c.locs c.sc e ie → Sub prog w OptR g₀ c fr d m (valueOrNone (evalOpt e c.env)) (fun σ => evO K FT (n + 1) d m ie σ) := by
  intro d c fr m e ie C h
  cases h with
  | none => exact sub_none
  | some h => exact sub_some (A.e d c fr m _ _ C h)

theorem all_es {n : Nat} (A : All prog w K FT g₀ n) : ∀ d c fr m pos es ies, CxOk c → CEs K c.locs c.sc es ies → Sub prog w VRs g₀ c fr d m (spliced (backTo pos (starEach es c.env))) (fun σ => evEs K FT (n + 1) d m ies σ) := by
  intro d c fr m pos es ies C h
  cases h with
  | nil => exact sub_items_nil
  | cons h1 h2 => exact sub_items_cons (cE_plain h1).star (A.e d c fr m _ _ C h1) (A.es d c fr m pos _ _ C h2)

theorem all_al {n : Nat} (A : All prog w K FT g₀ n) : ∀ d c fr m op es ies, CxOk c → CEs K c.locs c.sc es ies → Sub prog w BR g₀ c fr d m (allTrue op es c.env) (fun σ => evAll K FT (n + 1) d m (op == .And) ies σ) := by
  intro d c fr m op es ies C h
  cases h with
  | nil => exact sub_allTrue_nil
  | cons h1 h2 => exact sub_allTrue_cons (A.t d c fr m _ _ C h1) (A.al d c fr m op _ _ C h2)

theorem evT_asB {n d : Nat} {m : Lo} {e : IE} {σ : List TO} : evT K FT (n + 1) d m e σ = bnd (evE K FT n d m e σ) asB := rfl

theorem all_bo {n : Nat} (IH : ∀ k ≤ n, All prog w K FT g₀ k) : ∀ d c fr m op pos e es ies, CxOk c → CEs K c.locs c.sc (e :: es) ies → Sub prog w VR g₀ c fr d m (boolOp pos op (evalEach (e :: es) c.env)) (fun σ => bnd (evAll K FT (n + 1) d m (op == .And) ies σ) fun b σ => ret (.bool b) σ) := by
  intro d c fr m op pos e es ies C h
  cases h with
  | cons h1 h2 =>
    cases n with
    | zero => exact fun hx => nomatch hx
    | succ n =>
      cases h2 with
      | nil => exact sub_boolOp_one (op := op) (pos := pos) ((IH n (by first | exact Nat.le_succ _ | exact Nat.le_refl _ | exact Nat.le_of_lt_succ hk | exact Nat.le_of_lt hk | exact hk | exact Nat.le_of_succ_le hN | exact Nat.lt_of_succ_le hN | exact Nat.le_of_lt hN | exact hN | exact Nat.le_succ_of_le hk | omega)).e d c fr m _ _ C h1)
      | cons h2 h3 => exact sub_boolOp_cons (op := op) (pos := pos) ((IH n (by first | exact Nat.le_succ _ | exact Nat.le_refl _ | exact Nat.le_of_lt_succ hk | exact Nat.le_of_lt hk | exact hk | exact Nat.le_of_succ_le hN | exact Nat.lt_of_succ_le hN | exact Nat.le_of_lt hN | exact hN | exact Nat.le_succ_of_le hk | omega)).e d c fr m _ _ C h1) ((IH (n + 1) (by first | exact Nat.le_succ _ | exact Nat.le_refl _ | exact Nat.le_of_lt_succ hk | exact Nat.le_of_lt hk | exact hk | exact Nat.le_of_succ_le hN | exact Nat.lt_of_succ_le hN | exact Nat.le_of_lt hN | exact hN | exact Nat.le_succ_of_le hk | omega)).bo d c fr m op pos _ _ _ C (.cons h2 h3))
end
end Mine
end

section
open PySem PySem.W PySem.Calls PyProof.Rows
set_option maxRecDepth 100000
namespace Mine

section
variable {prog : Program} {w : World} {K : Frag} {FT : Addr → Option Fn} {p : Program} {loose : List Str} {mean : ExcName → Option Value} {mg mb : Str → Option Value} {g₀ : Heap}

theorem all_e {n : Nat} (O : TopOk K p loose mean mg mb g₀) (W : ClsOk K) (IH : ∀ k ≤ n, All prog w K FT g₀ k) :
    ∀ d c fr m e ie, CxOk c → CE K c.locs c.sc e ie → Sub prog w VR g₀ c fr d m (eval e c.env) (fun σ => evE K FT (n + 1) d m ie σ) := by
  intro d c fr m e ie C h
  have A := IH n (Nat.le_refl n)
  intro σ r σ' g mm s Q E hx st fin
  replace h := h.out
  cases h with
  | const hv => exact sub_const hv _ _ hx st fin
  | var hd hk =>
    obtain ⟨hl, hk⟩ := locIx_some hk
    exact sub_var C hl (noDbg_ne hd) hk hx st fin
  | glob hd hl hv => exact sub_glob O C hl (noDbg_ne hd) hv hx st fin
  | @andE e es ies pos h => exact A.bo d c fr m .And pos e es ies C h hx st fin
  | @orE e es ies pos h => exact A.bo d c fr m .Or pos e es ies C h hx st fin
  | notE h =>
    cases n with
    | zero => exact nomatch hx
    | succ n => exact sub_not ((IH n (by first | exact Nat.le_succ _ | exact Nat.le_refl _ | exact Nat.le_of_lt_succ hk | exact Nat.le_of_lt hk | exact hk | exact Nat.le_of_succ_le hN | exact Nat.lt_of_succ_le hN | exact Nat.le_of_lt hN | exact hN | exact Nat.le_succ_of_le hk | omega)).e d c fr m _ _ C h) hx st fin
  | neg => exact sub_neg hx st fin
  | ite h1 h2 h3 => exact sub_ite (A.t d c fr m _ _ C h1) (A.e d c fr m _ _ C h2) (A.e d c fr m _ _ C h3) hx st fin
  | bin hk h1 h2 => exact sub_bin (A.e d c fr m _ _ C h1) (A.e d c fr m _ _ C h2) hk hx st fin
  | cmp hk h1 h2 => exact sub_cmp O.X (A.e d c fr m _ _ C h1) (A.e d c fr m _ _ C h2) hk ((cE_plain h2).beh _) hx st fin
  | cmp2 hk hk' h1 h2 h3 => exact sub_cmp2 O.X (A.e d c fr m _ _ C h1) (A.e d c fr m _ _ C h2) (A.e d c fr m _ _ C h3) hk hk' ((cE_plain h3).beh _) hx st fin
  | @meth o name apos pos as k io ias hc hk h1 h2 =>
    exact sub_meth O.X hc (cEs_plain h2) hk (A.e d c fr m _ _ C h1) (A.es d c fr m pos _ _ C h2) (A.fn d c fr m C) (by cases k <;> exact hx) st fin
  | @call f np pos as jf ias h1 h2 =>
    cases n with
    | zero => exact nomatch hx
    | succ n => exact sub_call (cEs_plain h2) (A.e d c fr m _ _ C h1) (A.es d c fr m pos _ _ C h2) (call_ok O W C ((IH n (by first | exact Nat.le_succ _ | exact Nat.le_refl _ | exact Nat.le_of_lt_succ hk | exact Nat.le_of_lt hk | exact hk | exact Nat.le_of_succ_le hN | exact Nat.lt_of_succ_le hN | exact Nat.le_of_lt hN | exact hN | exact Nat.le_succ_of_le hk | omega)).fn d c fr m C)) hx st fin
  | atA hn h => exact sub_at O.X W.wire hn (A.e d c fr m _ _ C h) hx st fin
  | data hn h => exact sub_data O.X W.wire hn (A.e d c fr m _ _ C h) hx st fin
  | slice h1 h2 h3 => exact sub_slice (A.e d c fr m _ _ C h1) (A.o d c fr m _ _ C h2) (A.o d c fr m _ _ C h3) hx st fin
  | sub h1 h2 => exact sub_sub O.X (A.e d c fr m _ _ C h1) (A.e d c fr m _ _ C h2) hx st fin
  | tup h => exact sub_tup (A.es d c fr m _ _ _ C h) hx st fin
  | list h => exact sub_list (A.es d c fr m _ _ _ C h) hx st fin
  | @comp csc _ _ x _ _ _ _ hc h1 h2 => exact sub_comp O.X C hc ((cE_plain h1).fold c.env) ⟨fun L fr' m k hk => (IH k (by first | exact Nat.le_succ _ | exact Nat.le_refl _ | exact Nat.le_of_lt_succ hk | exact Nat.le_of_lt hk | exact hk | exact Nat.le_of_succ_le hN | exact Nat.lt_of_succ_le hN | exact Nat.le_of_lt hN | exact hN | exact Nat.le_succ_of_le hk | omega)).e d (compCx c csc L x) fr' m _ _ (compCx_ok C hc) h2, .inl ⟨rfl, rfl⟩⟩ (A.e d c fr m _ _ C h1) hx st fin
  | @compT csc _ _ t x _ _ _ _ it hc h1 h2 h3 => exact sub_comp O.X C hc ((cE_plain h1).fold c.env) ⟨fun L fr' m k hk => (IH k (by first | exact Nat.le_succ _ | exact Nat.le_refl _ | exact Nat.le_of_lt_succ hk | exact Nat.le_of_lt hk | exact hk | exact Nat.le_of_succ_le hN | exact Nat.lt_of_succ_le hN | exact Nat.le_of_lt hN | exact hN | exact Nat.le_succ_of_le hk | omega)).e d (compCx c csc L x) fr' m _ _ (compCx_ok C hc) h2, .inr ⟨t, it, rfl, rfl, fun L fr' m k hk => (IH k (by first | exact Nat.le_succ _ | exact Nat.le_refl _ | exact Nat.le_of_lt_succ hk | exact Nat.le_of_lt hk | exact hk | exact Nat.le_of_succ_le hN | exact Nat.lt_of_succ_le hN | exact Nat.le_of_lt hN | exact hN | exact Nat.le_succ_of_le hk | omega)).t d (compCx c csc L x) fr' m _ _ (compCx_ok C hc) h3⟩⟩ (A.e d c fr m _ _ C h1) hx st fin
end
end Mine
end

section
open PySem PySem.W PySem.Calls PyProof.Rows
set_option maxRecDepth 100000
namespace Mine

section
variable {prog : Program} {w : World} {K : Frag} {FT : Addr → Option Fn} {p : Program} {loose : List Str} {mean : ExcName → Option Value} {mg mb : Str → Option Value} {g₀ : Heap}

theorem opt_bool {x : Option Bool} {σ σ' : List TO} {r : Ex Bool} (h : bnd (opt (x.map AV.bool) σ) asB = some (r, σ')) : opt x σ = some (r, σ') := by
  cases x with
  | none => simp at h
  | some b => exact h
theorem bnd_assoc {α β γ : Type} {x : R α} {f : α → List TO → R β} {k : β → List TO → R γ} : bnd (bnd x f) k = bnd x fun a σ => bnd (f a σ) k := by
  cases x with
  | none => rfl
  | some q => obtain ⟨a, σ⟩ := q; cases a <;> rfl

theorem bnd_ext {α β : Type} {x : R α} {f f' : α → List TO → R β} {r : Ex β} {σ' : List TO} (h : bnd x f = some (r, σ')) (k : ∀ a σ, f a σ = some (r, σ') → f' a σ = some (r, σ')) : bnd x f' = some (r, σ') := by
  cases x with
  | none => cases h
  | some q => obtain ⟨q, σ1⟩ := q; cases q with
    | exc i => exact h
    | ok a => exact k a σ1 h
theorem all_t {n : Nat} (O : TopOk K p loose mean mg mb g₀) (IH : ∀ k ≤ n, All prog w K FT g₀ k) :
    ∀ d c fr m e ie, CxOk c → CE K c.locs c.sc e ie → Sub prog w BR g₀ c fr d m (isTrue e c.env (eval e c.env)) (fun σ => evT K FT (n + 1) d m ie σ) := by
  intro d c fr m e ie C h
  -- by its value
  have byV : isTrue e c.env (eval e c.env) = (do let v ← eval e c.env; standAt e.pos; holding [v] (truthy v)) → Sub prog w BR g₀ c fr d m (isTrue e c.env (eval e c.env)) (fun σ => evT K FT (n + 1) d m ie σ) := fun he => by
    intro σ r σ' g mm s Q E hx st fin
    exact test_value ((IH n (Nat.le_refl n)).e d c fr m e ie C h) he hx st fin
  cases n with
  | zero => intro σ r σ' g mm s Q E hx; cases hx
  | succ n =>
    have A := IH n (by first | exact Nat.le_succ _ | exact Nat.le_refl _ | exact Nat.le_of_lt_succ hk | exact Nat.le_of_lt hk | exact hk | exact Nat.le_of_succ_le hN | exact Nat.lt_of_succ_le hN | exact Nat.le_of_lt hN | exact hN | exact Nat.le_succ_of_le hk | omega)
    have B := IH (n + 1) (by first | exact Nat.le_succ _ | exact Nat.le_refl _ | exact Nat.le_of_lt_succ hk | exact Nat.le_of_lt hk | exact hk | exact Nat.le_of_succ_le hN | exact Nat.lt_of_succ_le hN | exact Nat.le_of_lt hN | exact hN | exact Nat.le_succ_of_le hk | omega)
    replace h := h.out
    cases h with
    | @andE e es ies pos h =>
      intro σ r σ' g mm s Q E hx st fin
      dsimp only at hx
      rw [evT_asB, evE_and, bnd_assoc] at hx
      refine test_bool (A.al d c fr m .And _ _ C h) ?_ st fin
      dsimp only
      rw [show (BoolOp.And == BoolOp.And) = true from rfl]
      cases hz : evAll K FT n d m true ies σ with
      | none => rw [hz] at hx; cases hx
      | some q => obtain ⟨q, σ1⟩ := q; rw [hz] at hx; cases q <;> exact hx
    | @orE e es ies pos h =>
      intro σ r σ' g mm s Q E hx st fin
      dsimp only at hx
      rw [evT_asB, evE_or, bnd_assoc] at hx
      refine test_bool (A.al d c fr m .Or _ _ C h) ?_ st fin
      dsimp only
      rw [show (BoolOp.Or == BoolOp.And) = false from rfl]
      cases hz : evAll K FT n d m false ies σ with
      | none => rw [hz] at hx; cases hx
      | some q => obtain ⟨q, σ1⟩ := q; rw [hz] at hx; cases q <;> exact hx
    | notE h =>
      intro σ r σ' g mm s Q E hx st fin
      dsimp only at hx
      rw [evT_asB, evE_not, bnd_assoc] at hx
      exact test_not (A.t d c fr m _ _ C h) hx st fin
    | ite h1 h2 h3 =>
      intro σ r σ' g mm s Q E hx st fin
      dsimp only at hx
      rw [evT_asB, evE_ite, bnd_assoc] at hx
      refine test_ite (A.t d c fr m _ _ C h1) (B.t d c fr m _ _ C h2) (B.t d c fr m _ _ C h3) ?_ st fin
      refine bnd_ext hx fun t σ1 h => ?_
      cases t <;> exact h
    | cmp hk h1 h2 =>
      intro σ r σ' g mm s Q E hx st fin
      dsimp only at hx
      rw [evT_asB, evE_cmp, bnd_assoc] at hx
      refine test_cmp O.X (A.e d c fr m _ _ C h1) (A.e d c fr m _ _ C h2) hk ((cE_plain h2).beh _) ?_ st fin
      refine bnd_ext hx fun a σ1 h => ?_
      rw [bnd_assoc] at h
      exact bnd_ext h fun b σ2 h => opt_bool h
    | cmp2 hk hk' h1 h2 h3 =>
      intro σ r σ' g mm s Q E hx st fin
      dsimp only at hx
      rw [evT_asB, evE_cmp2, bnd_assoc] at hx
      refine test_cmp2 O.X (A.e d c fr m _ _ C h1) (A.e d c fr m _ _ C h2) (A.e d c fr m _ _ C h3) hk hk' ((cE_plain h3).beh _) ?_ st fin
      refine bnd_ext hx fun a σ1 h => ?_
      rw [bnd_assoc] at h
      refine bnd_ext h fun b σ2 h => ?_
      dsimp only at h ⊢
      revert h
      cases cmpA K σ2 _ a b with
      | none => exact id
      | some y =>
        cases y with
        | false => exact id
        | true =>
          intro h
          rw [bnd_assoc] at h
          exact bnd_ext h fun b σ3 h => opt_bool h
    | _ => exact @byV rfl
end
end Mine
end

section
open PySem PySem.W PySem.Calls PyProof.Rows
set_option maxRecDepth 100000
namespace Mine

section
variable {prog : Program} {w : World} {K : Frag} {FT : Addr → Option Fn} {p : Program} {loose : List Str} {mean : ExcName → Option Value} {mg mb : Str → Option Value} {g₀ : Heap}

theorem all_ss {n : Nat} (A : All prog w K FT g₀ n) : ∀ d c fr l il, CxOk c → Top1 c → CSs K c.locs c.sc l il → SubS prog w g₀ c fr d (execs l c.env) (fun m σ => evSs K FT (n + 1) d il m σ) := by
  intro d c fr l il C T h m σ r g mm s Q E hx st fin
  cases h with
  | nil => exact subS_nil hx st fin
  | cons h1 h2 => exact subS_cons (A.s d c fr _ _ C T h1) (A.ss d c fr _ _ C T h2) hx st fin

theorem swOk_len {sc : Scope} {ts es : List Expr} (h : swOk sc ts es = true) : es.length ≤ 100 := by
  unfold swOk at h
  simp only [Bool.and_eq_true, beq_iff_eq, Bool.or_eq_true] at h
  obtain ⟨⟨⟨⟨⟨h1, h2⟩, _⟩, _⟩, _⟩, _⟩ := h
  omega

theorem all_s {n : Nat} (O : TopOk K p loose mean mg mb g₀) (W : ClsOk K) (WE : ExcAll K) (IH : ∀ k ≤ n, All prog w K FT g₀ k) : ∀ d c fr st is, CxOk c → Top1 c → CS K c.locs c.sc st is → SubS prog w g₀ c fr d (exec st c.env) (fun m σ => evS K FT (n + 1) d is m σ) := by
  intro d c fr st is C T h m σ r g mm s Q E hx stt fin
  have A := IH n (Nat.le_refl n)
  replace h := h.out
  cases h with
  | asgC hsw hk he =>
    obtain ⟨h1, h2⟩ := locIx_some hk
    cases n with
    | zero => cases hx
    | succ n =>
      replace he := he.out
      cases he with
      | @comp csc _ _ y _ _ _ _ hc h3 h4 => exact subS_asgC O.X C h1 h2 hsw hc ((cE_plain h3).fold c.env) ⟨fun L fr' m k hk => (IH k (by first | exact Nat.le_succ _ | exact Nat.le_refl _ | exact Nat.le_of_lt_succ hk | exact Nat.le_of_lt hk | exact hk | exact Nat.le_of_succ_le hN | exact Nat.lt_of_succ_le hN | exact Nat.le_of_lt hN | exact hN | exact Nat.le_succ_of_le hk | omega)).e d (compCx c _ L y) fr' m _ _ (compCx_ok C hc) h4, .inl ⟨rfl, rfl⟩⟩ (fun m => (IH n (by first | exact Nat.le_succ _ | exact Nat.le_refl _ | exact Nat.le_of_lt_succ hk | exact Nat.le_of_lt hk | exact hk | exact Nat.le_of_succ_le hN | exact Nat.lt_of_succ_le hN | exact Nat.le_of_lt hN | exact hN | exact Nat.le_succ_of_le hk | omega)).e d c fr m _ _ C h3) hx stt fin
      | @compT csc _ _ t y _ _ _ _ it1 hc h3 h4 h5 => exact subS_asgC O.X C h1 h2 hsw hc ((cE_plain h3).fold c.env) ⟨fun L fr' m k hk => (IH k (by first | exact Nat.le_succ _ | exact Nat.le_refl _ | exact Nat.le_of_lt_succ hk | exact Nat.le_of_lt hk | exact hk | exact Nat.le_of_succ_le hN | exact Nat.lt_of_succ_le hN | exact Nat.le_of_lt hN | exact hN | exact Nat.le_succ_of_le hk | omega)).e d (compCx c _ L y) fr' m _ _ (compCx_ok C hc) h4, .inr ⟨t, it1, rfl, rfl, fun L fr' m k hk => (IH k (by first | exact Nat.le_succ _ | exact Nat.le_refl _ | exact Nat.le_of_lt_succ hk | exact Nat.le_of_lt hk | exact hk | exact Nat.le_of_succ_le hN | exact Nat.lt_of_succ_le hN | exact Nat.le_of_lt hN | exact hN | exact Nat.le_succ_of_le hk | omega)).t d (compCx c _ L y) fr' m _ _ (compCx_ok C hc) h5⟩⟩ (fun m => (IH n (by first | exact Nat.le_succ _ | exact Nat.le_refl _ | exact Nat.le_of_lt_succ hk | exact Nat.le_of_lt hk | exact hk | exact Nat.le_of_succ_le hN | exact Nat.lt_of_succ_le hN | exact Nat.le_of_lt hN | exact hN | exact Nat.le_succ_of_le hk | omega)).e d c fr m _ _ C h3) hx stt fin
  | asg hc hk he =>
    obtain ⟨h1, h2⟩ := locIx_some hk
    exact subS_asg C h1 h2 ((cE_plain he).sw hc _ _ _) (fun m => A.e d c fr m _ _ C he) hx stt fin
  | asgAt ho he => exact subS_asgAt O.X W ((cE_plain he).swa _ _ _ _ _) (fun m => A.e d c fr m _ _ C ho) (fun m => A.e d c fr m _ _ C he) hx stt fin
  | asgT hw hks he => exact subS_asgT C hw (cEs_length he) hks (swOk_len hw) (fun m => A.es d c fr m _ _ _ C he) hx stt fin
  | expr hc he => exact subS_expr C ((cE_plain he).sw hc _ _ _) (fun m => A.e d c fr m _ _ C he) hx stt fin
  | ret he => exact subS_ret (fun m => A.e d c fr m _ _ C he) hx stt fin
  | ite h1 h2 h3 => exact subS_ite (fun m => A.t d c fr m _ _ C h1) (A.ss d c fr _ _ C T h2) (A.ss d c fr _ _ C T h3) hx stt fin
  | whil h1 h2 => exact subS_while (N := n + 1) (fun k hk m => (IH k (by first | exact Nat.le_succ _ | exact Nat.le_refl _ | exact Nat.le_of_lt_succ hk | exact Nat.le_of_lt hk | exact hk | exact Nat.le_of_succ_le hN | exact Nat.lt_of_succ_le hN | exact Nat.le_of_lt hN | exact hN | exact Nat.le_succ_of_le hk | omega)).t d c fr m _ _ C h1) (fun k hk => (IH k (by first | exact Nat.le_succ _ | exact Nat.le_refl _ | exact Nat.le_of_lt_succ hk | exact Nat.le_of_lt hk | exact hk | exact Nat.le_of_succ_le hN | exact Nat.lt_of_succ_le hN | exact Nat.le_of_lt hN | exact hN | exact Nat.le_succ_of_le hk | omega)).ss d c fr _ _ C T h2) hx stt fin
  | range hr1 hr2 hk h1 h2 => exact subS_forRange O C hk hr1 (by decide) hr2 (fun env => (cE_plain h1).star [] env) T (fun m => A.e d c fr m _ _ C h1) (fun k hk fr' => (IH k (by first | exact Nat.le_succ _ | exact Nat.le_refl _ | exact Nat.le_of_lt_succ hk | exact Nat.le_of_lt hk | exact hk | exact Nat.le_of_succ_le hN | exact Nat.lt_of_succ_le hN | exact Nat.le_of_lt hN | exact hN | exact Nat.le_succ_of_le hk | omega)).ss d c fr' _ _ C T h2) hx stt fin
  | forN hk h1 h2 => exact subS_for O.X C (.name hk) T ((cE_plain h1).fold c.env) (fun m => A.e d c fr m _ _ C h1) (fun k hk fr' => (IH k (by first | exact Nat.le_succ _ | exact Nat.le_refl _ | exact Nat.le_of_lt_succ hk | exact Nat.le_of_lt hk | exact hk | exact Nat.le_of_succ_le hN | exact Nat.lt_of_succ_le hN | exact Nat.le_of_lt hN | exact hN | exact Nat.le_succ_of_le hk | omega)).ss d c fr' _ _ C T h2) hx stt fin
  | forT hks hk h1 h2 => exact subS_for O.X C (.tup hk hks) T ((cE_plain h1).fold c.env) (fun m => A.e d c fr m _ _ C h1) (fun k hk fr' => (IH k (by first | exact Nat.le_succ _ | exact Nat.le_refl _ | exact Nat.le_of_lt_succ hk | exact Nat.le_of_lt hk | exact hk | exact Nat.le_of_succ_le hN | exact Nat.lt_of_succ_le hN | exact Nat.le_of_lt hN | exact hN | exact Nat.le_succ_of_le hk | omega)).ss d c fr' _ _ C T h2) hx stt fin
  | raise he => exact subS_raise O.X W C (fun m => A.e d c fr m _ _ C he) hx stt fin
  | tryE h1 h2 => exact subS_try O WE C T h2 (A.ss d c fr _ _ C T h1) hx stt fin
end
end Mine
end

section
open PySem PySem.W PySem.Calls PyProof.Rows
set_option maxRecDepth 100000
namespace Mine

section
variable {prog : Program} {w : World} {K : Frag} {FT : Addr → Option Fn} {p : Program} {loose : List Str} {mean : ExcName → Option Value} {mg mb : Str → Option Value} {g₀ : Heap}

theorem all (hFT : ∀ a f, FT a = some f → CF K a f) (O : TopOk K p loose mean mg mb g₀) (W : ClsOk K) (WE : ExcAll K) : ∀ n, ∀ k ≤ n, All prog w K FT g₀ k := by
  intro n
  induction n with
  | zero =>
    intro k hk
    obtain rfl : k = 0 := by omega
    exact all_zero
  | succ n IH =>
    intro k hk
    rcases Nat.lt_or_ge k (n + 1) with h | h
    · exact IH k (by omega)
    · obtain rfl : k = n + 1 := by omega
      have A := IH n (Nat.le_refl n)
      exact ⟨all_e O W IH, all_t O IH, all_al A, all_bo IH, all_es A, all_o A, all_fn hFT O A, all_s O W WE IH, all_ss A⟩
end
end Mine
end

section
open PySem PySem.W PyProof.Rows
set_option maxRecDepth 100000
set_option maxHeartbeats 4000000
namespace Mine
noncomputable abbrev KP (P : Params) : Frag := grab.heap_1 P
theorem g_chr (P : Params) : globV (KP P) (Str.ofString "chr") = some (.builtin "chr") := by kernel_rfl
theorem g_lower_code (P : Params) : globV (KP P) (Str.ofString "lower_code") = some (.ref 92) := by kernel_rfl
theorem g_ord (P : Params) : globV (KP P) (Str.ofString "ord") = some (.builtin "ord") := by kernel_rfl
theorem g_range (P : Params) : globV (KP P) (Str.ofString "range") = some (.type "range") := by kernel_rfl
theorem g_len (P : Params) : globV (KP P) (Str.ofString "len") = some (.builtin "len") := by kernel_rfl
theorem g_WordFault (P : Params) : globV (KP P) (Str.ofString "WordFault") = some (.ref 59) := by kernel_rfl
theorem g_is_leap (P : Params) : globV (KP P) (Str.ofString "is_leap") = some (.ref 120) := by kernel_rfl
theorem g_MOST_YEAR (P : Params) : globV (KP P) (Str.ofString "MOST_YEAR") = some (.int 9999 334) := by kernel_rfl
theorem g_month_length (P : Params) : globV (KP P) (Str.ofString "month_length") = some (.ref 127) := by kernel_rfl
theorem g_is_figures (P : Params) : globV (KP P) (Str.ofString "is_figures") = some (.ref 144) := by kernel_rfl
theorem g_int (P : Params) : globV (KP P) (Str.ofString "int") = some (.type "int") := by kernel_rfl
theorem g_is_day (P : Params) : globV (KP P) (Str.ofString "is_day") = some (.ref 134) := by kernel_rfl
theorem g_month_number (P : Params) : globV (KP P) (Str.ofString "month_number") = some (.ref 139) := by kernel_rfl
theorem g_MONTHS (P : Params) : globV (KP P) (Str.ofString "MONTHS") = some (.ref 113) := by kernel_rfl
theorem g_lower_text (P : Params) : globV (KP P) (Str.ofString "lower_text") = some (.ref 102) := by kernel_rfl
theorem g_day_in (P : Params) : globV (KP P) (Str.ofString "day_in") = some (.ref 151) := by kernel_rfl
theorem g_read_day (P : Params) : globV (KP P) (Str.ofString "read_day") = some (.ref 158) := by kernel_rfl
theorem g_ascii_text (P : Params) : globV (KP P) (Str.ofString "ascii_text") = some (.ref 112) := by kernel_rfl
theorem g_QueryFault (P : Params) : globV (KP P) (Str.ofString "QueryFault") = some (.ref 83) := by kernel_rfl
theorem g_WireFault (P : Params) : globV (KP P) (Str.ofString "WireFault") = some (.ref 71) := by kernel_rfl
theorem g_QUOTE (P : Params) : globV (KP P) (Str.ofString "QUOTE") = some (.int 34 402) := by kernel_rfl
theorem g_BACKSLASH (P : Params) : globV (KP P) (Str.ofString "BACKSLASH") = some (.int 92 404) := by kernel_rfl
theorem g_CRLF (P : Params) : globV (KP P) (Str.ofString "CRLF") = some (.bytes #[13, 10] 286) := by kernel_rfl
theorem g_SPECIALS (P : Params) : globV (KP P) (Str.ofString "SPECIALS") = some (.bytes #[40, 41, 123, 37, 42, 34, 92, 93] 412) := by kernel_rfl
theorem g_MOST_COUNT_FIGURES (P : Params) : globV (KP P) (Str.ofString "MOST_COUNT_FIGURES") = some (.int 10 410) := by kernel_rfl
theorem g_is_printable (P : Params) : globV (KP P) (Str.ofString "is_printable") = some (.ref 200) := by kernel_rfl
theorem g_is_atom_code (P : Params) : globV (KP P) (Str.ofString "is_atom_code") = some (.ref 207) := by kernel_rfl
theorem g_is_astring_code (P : Params) : globV (KP P) (Str.ofString "is_astring_code") = some (.ref 214) := by kernel_rfl
theorem g_is_figure (P : Params) : globV (KP P) (Str.ofString "is_figure") = some (.ref 228) := by kernel_rfl
theorem g_number_of_figures (P : Params) : globV (KP P) (Str.ofString "number_of_figures") = some (.ref 235) := by kernel_rfl
theorem g_bytes (P : Params) : globV (KP P) (Str.ofString "bytes") = some (.type "bytes") := by kernel_rfl
theorem g_bytearray (P : Params) : globV (KP P) (Str.ofString "bytearray") = some (.type "bytearray") := by kernel_rfl
theorem g_Wire (P : Params) : globV (KP P) (Str.ofString "Wire") = some (.ref 420) := by kernel_rfl
theorem g_law_months (P : Params) : globV (KP P) (Str.ofString "_law_months") = some (.ref 425) := by kernel_rfl
theorem g_law_years (P : Params) : globV (KP P) (Str.ofString "_law_years") = some (.ref 426) := by kernel_rfl
theorem g_law_table (P : Params) : globV (KP P) (Str.ofString "_law_table") = some (.ref 447) := by kernel_rfl
theorem g_law_pick (P : Params) : globV (KP P) (Str.ofString "_law_pick") = some (.ref 454) := by kernel_rfl
theorem g_law_long (P : Params) : globV (KP P) (Str.ofString "_law_long") = some (.ref 461) := by kernel_rfl
theorem g_law_due (P : Params) : globV (KP P) (Str.ofString "_law_due") = some (.ref 466) := by kernel_rfl
theorem g_law_heard (P : Params) : globV (KP P) (Str.ofString "_law_heard") = some (.ref 473) := by kernel_rfl
theorem g_law_is_right (P : Params) : globV (KP P) (Str.ofString "_law_is_right") = some (.ref 478) := by kernel_rfl
theorem g_day_here (P : Params) : globV (KP P) (Str.ofString "day_here") = some (.ref 165) := by kernel_rfl
theorem w_space (P : Params) : cMeth (KP P) (Str.ofString "space") = some (.own (Str.ofString "space") 285) := by kernel_rfl
theorem w_need (P : Params) : cMeth (KP P) (Str.ofString "need") = some (.own (Str.ofString "need") 278) := by kernel_rfl
theorem w_skip (P : Params) : cMeth (KP P) (Str.ofString "skip") = some (.own (Str.ofString "skip") 271) := by kernel_rfl
theorem w_fault (P : Params) : cMeth (KP P) (Str.ofString "fault") = some (.own (Str.ofString "fault") 257) := by kernel_rfl
theorem w_peek (P : Params) : cMeth (KP P) (Str.ofString "peek") = some (.own (Str.ofString "peek") 264) := by kernel_rfl
theorem w_astring (P : Params) : cMeth (KP P) (Str.ofString "astring") = some (.own (Str.ofString "astring") 383) := by kernel_rfl
theorem w_string_or (P : Params) : cMeth (KP P) (Str.ofString "string_or") = some (.own (Str.ofString "string_or") 376) := by kernel_rfl
theorem w_string (P : Params) : cMeth (KP P) (Str.ofString "string") = some (.own (Str.ofString "string") 369) := by kernel_rfl
theorem w_quoted (P : Params) : cMeth (KP P) (Str.ofString "quoted") = some (.own (Str.ofString "quoted") 355) := by kernel_rfl
theorem w_literal (P : Params) : cMeth (KP P) (Str.ofString "literal") = some (.own (Str.ofString "literal") 362) := by kernel_rfl
theorem w_run (P : Params) : cMeth (KP P) (Str.ofString "run") = some (.own (Str.ofString "run") 299) := by kernel_rfl
theorem w_split (P : Params) : cMeth (KP P) (Str.ofString "split") = some .split := by kernel_rfl
theorem w_lower (P : Params) : cMeth (KP P) (Str.ofString "lower") = some .lower := by kernel_rfl
theorem w_upper (P : Params) : cMeth (KP P) (Str.ofString "upper") = some .upper := by kernel_rfl
theorem w_pop (P : Params) : cMeth (KP P) (Str.ofString "pop") = some .pop := by kernel_rfl
theorem w_index (P : Params) : cMeth (KP P) (Str.ofString "index") = some .index := by kernel_rfl
theorem w_append (P : Params) : cMeth (KP P) (Str.ofString "append") = some .append := by kernel_rfl
theorem w_join (P : Params) : cMeth (KP P) (Str.ofString "join") = some .join := by kernel_rfl
theorem cp_0 : (Str.ofString "").cps.toList = [] := by decide +kernel
theorem cp_1 : (Str.ofString "-").cps.toList = [45] := by decide +kernel
theorem cp_2 : (Str.ofString "0").cps.toList = [48] := by decide +kernel
theorem cp_3 : (Str.ofString "9").cps.toList = [57] := by decide +kernel
theorem cp_4 : (Str.ofString "s").cps.toList = [115] := by decide +kernel
theorem cp_5 : (Str.ofString "0123456789").cps.toList = [48, 49, 50, 51, 52, 53, 54, 55, 56, 57] := by decide +kernel
theorem cp_6 : (Str.ofString "28").cps.toList = [50, 56] := by decide +kernel
theorem cp_7 : (Str.ofString "29").cps.toList = [50, 57] := by decide +kernel
theorem cp_8 : (Str.ofString "30").cps.toList = [51, 48] := by decide +kernel
theorem cp_9 : (Str.ofString "31").cps.toList = [51, 49] := by decide +kernel
theorem cp_10 : (Str.ofString "1").cps.toList = [49] := by decide +kernel
theorem cp_11 : (Str.ofString "09").cps.toList = [48, 57] := by decide +kernel
theorem cp_12 : (Str.ofString "32").cps.toList = [51, 50] := by decide +kernel
theorem cp_13 : (Str.ofString "007").cps.toList = [48, 48, 55] := by decide +kernel
theorem cp_14 : (Str.ofString "x").cps.toList = [120] := by decide +kernel

theorem CE.str {K : Frag} {locs : List Str} {sc : Scope} {s : Str} {k : Nat} {p : Pos} {l : List Nat} (h : s.cps.toList = l) : CE K locs sc (.Constant (.str s) k p) (.const (.str l)) := .const (by rw [← h]; rfl)
theorem CE.globR {K : Frag} {locs : List Str} {sc : Scope} {id : Str} {p : Pos} {a : Addr} (h1 : noDbg id = true) (h2 : sc.names.lookup id = some .globalImplicit) (h3 : globV K id = some (.ref a)) : CE K locs sc (.Name id p) (.const (.val (.ref a))) := .glob h1 h2 h3
theorem CE.globB {K : Frag} {locs : List Str} {sc : Scope} {id : Str} {p : Pos} {a : String} (h1 : noDbg id = true) (h2 : sc.names.lookup id = some .globalImplicit) (h3 : globV K id = some (.builtin a)) : CE K locs sc (.Name id p) (.const (.val (.builtin a))) := .glob h1 h2 h3
theorem CE.globT {K : Frag} {locs : List Str} {sc : Scope} {id : Str} {p : Pos} {a : String} (h1 : noDbg id = true) (h2 : sc.names.lookup id = some .globalImplicit) (h3 : globV K id = some (.type a)) : CE K locs sc (.Name id p) (.const (.val (.type a))) := .glob h1 h2 h3
theorem CE.globI {K : Frag} {locs : List Str} {sc : Scope} {id : Str} {p : Pos} {a : Int} {t : Tok} (h1 : noDbg id = true) (h2 : sc.names.lookup id = some .globalImplicit) (h3 : globV K id = some (.int a t)) : CE K locs sc (.Name id p) (.const (.int a)) := .glob h1 h2 h3
theorem CE.globY {K : Frag} {locs : List Str} {sc : Scope} {id : Str} {p : Pos} {a : Array UInt8} {t : Tok} (h1 : noDbg id = true) (h2 : sc.names.lookup id = some .globalImplicit) (h3 : globV K id = some (.bytes a t)) : CE K locs sc (.Name id p) (.const (.bytes a.toList)) := .glob h1 h2 h3

local macro_rules | `(tactic| decreasing_trivial_pre_omega) => do
    let a : Array (Lean.TSyntax ``Lean.Parser.Tactic.tacticSeq) ← ("g_chr g_lower_code g_ord g_range g_len g_WordFault g_is_leap g_MOST_YEAR g_month_length g_is_figures g_int g_is_day g_month_number g_MONTHS g_lower_text g_day_in g_read_day g_ascii_text g_QueryFault g_WireFault g_QUOTE g_BACKSLASH g_CRLF g_SPECIALS g_MOST_COUNT_FIGURES g_is_printable g_is_atom_code g_is_astring_code g_is_figure g_number_of_figures g_bytes g_bytearray g_Wire g_law_months g_law_years g_law_table g_law_pick g_law_long g_law_due g_law_heard g_law_is_right g_day_here".splitOn " ").toArray.mapM fun w => do
      let i := Lean.mkIdent w.toName
      `(Lean.Parser.Tactic.tacticSeq| exact $i _)
    `(tactic| with_reducible first $[| $a]*)
noncomputable def F92 : {f : Fn // ∀ P, CF (KP P) 92 f} := by
  refine ⟨⟨?np, ?nl, ?b⟩, fun P => ⟨?oc, ?od, ?fd, ?sl, ?bd, ?h1, ?h2, ?h3, ?h4, ?h5, ?h6⟩⟩
  case h1 => with_unfolding_all rfl
  case h2 => exact rfl
  case h3 => kernel_rfl
  case h5 => exact rfl
  case h6 => exact rfl
  case h4 =>
    dsimp only [List.map_cons, List.map_nil]
    repeat' (first
      | with_reducible exact All2.nil | with_reducible exact Opt2.none | with_reducible exact CT.nil | with_reducible exact CH.nil | with_reducible exact CN.none
      | with_reducible refine' All2.cons ?_ ?_ | with_reducible refine' Opt2.some ?_ | with_reducible refine' CT.cons ?_ ?_ | with_reducible refine' CH.cons ?_ ?_ ?_ ?_ ?_ ?_ | with_reducible refine' CN.some ?_
      | with_reducible refine' CU.atF ?_ ?_ ?_ | with_reducible refine' CU.none ?_ | with_reducible refine' CU.raise ?_ ?_ ?_ ?_ ?_
      | with_reducible refine' CS.asgC ?_ ?_ ?_ | with_reducible refine' CS.asgAt ?_ ?_ | with_reducible refine' CS.asgT ?_ ?_ ?_ | with_reducible refine' CS.asg ?_ ?_ ?_ | with_reducible refine' CS.expr ?_ ?_ | with_reducible refine' CS.ret ?_ | with_reducible refine' CS.ite ?_ ?_ ?_ | with_reducible refine' CS.whil ?_ ?_ | with_reducible refine' CS.range ?_ ?_ ?_ ?_ ?_ | with_reducible refine' CS.forT ?_ ?_ ?_ ?_ | with_reducible refine' CS.forN ?_ ?_ ?_ | with_reducible refine' CS.raise ?_ | with_reducible refine' CS.tryE ?_ ?_
      | with_reducible refine' CE.str ?_ | with_reducible refine' CE.const ?_ | with_reducible refine' CE.andE ?_ | with_reducible refine' CE.orE ?_ | with_reducible refine' CE.notE ?_ | with_reducible exact CE.neg | with_reducible refine' CE.ite ?_ ?_ ?_ | with_reducible refine' CE.bin ?_ ?_ ?_ | with_reducible refine' CE.cmp ?_ ?_ ?_ | with_reducible refine' CE.cmp2 ?_ ?_ ?_ ?_ ?_
      | with_reducible refine' CE.meth ?_ ?_ ?_ ?_ | with_reducible refine' CE.call ?_ ?_ | with_reducible refine' CE.atA ?_ ?_ | with_reducible refine' CE.data ?_ ?_ | with_reducible refine' CE.slice ?_ ?_ ?_ | with_reducible refine' CE.sub ?_ ?_ | with_reducible refine' CE.tup ?_ | with_reducible refine' CE.list ?_ | with_reducible refine' CE.comp ?_ ?_ ?_ | with_reducible refine' CE.compT ?_ ?_ ?_ ?_
      | first
        | ((with_reducible show CE _ _ _ (.Name _ _) _); first
            | (refine' CE.var ?va ?vb; (case va => kernel_rfl); (case vb => exact rfl))
            | ((with_reducible refine' CE.globR ?va ?vb ?vc); (case va => kernel_rfl); (case vb => kernel_rfl); (case vc => decreasing_trivial_pre_omega))
            | ((with_reducible refine' CE.globB ?va ?vb ?vc); (case va => kernel_rfl); (case vb => kernel_rfl); (case vc => decreasing_trivial_pre_omega))
            | ((with_reducible refine' CE.globT ?va ?vb ?vc); (case va => kernel_rfl); (case vb => kernel_rfl); (case vc => decreasing_trivial_pre_omega))
            | ((with_reducible refine' CE.globI ?va ?vb ?vc); (case va => kernel_rfl); (case vb => kernel_rfl); (case vc => decreasing_trivial_pre_omega))
            | ((with_reducible refine' CE.globY ?va ?vb ?vc); (case va => kernel_rfl); (case vb => kernel_rfl); (case vc => decreasing_trivial_pre_omega)))
        | ((with_reducible show locIx _ _ _ = _); exact rfl)
        | ((with_reducible show globV _ _ = _); decreasing_trivial_pre_omega)
        | ((with_reducible show cMeth _ _ = _); with_reducible (first | exact w_space _ | exact w_need _ | exact w_skip _ | exact w_fault _ | exact w_peek _ | exact w_astring _ | exact w_string_or _ | exact w_string _ | exact w_quoted _ | exact w_literal _ | exact w_run _ | exact w_split _ | exact w_lower _ | exact w_upper _ | exact w_pop _ | exact w_index _ | exact w_append _ | exact w_join _))
        | ((with_reducible show Array.toList _ = _); first | (with_reducible (first | exact cp_0 | exact cp_1 | exact cp_2 | exact cp_3 | exact cp_4 | exact cp_5 | exact cp_6 | exact cp_7 | exact cp_8 | exact cp_9 | exact cp_10 | exact cp_11 | exact cp_12 | exact cp_13 | exact cp_14)) | exact rfl)
        | ((with_reducible show cConst _ = _); exact rfl)
        | ((with_reducible show cBin _ = _); exact rfl)
        | ((with_reducible show cCmp _ = _); exact rfl)
        | kernel_rfl
        | decide)
    all_goals decide

noncomputable def F102 : {f : Fn // ∀ P, CF (KP P) 102 f} := by
  refine ⟨⟨?np, ?nl, ?b⟩, fun P => ⟨?oc, ?od, ?fd, ?sl, ?bd, ?h1, ?h2, ?h3, ?h4, ?h5, ?h6⟩⟩
  case h1 => with_unfolding_all rfl
  case h2 => exact rfl
  case h3 => kernel_rfl
  case h5 => exact rfl
  case h6 => exact rfl
  case h4 =>
    dsimp only [List.map_cons, List.map_nil]
    repeat' (first
      | with_reducible exact All2.nil | with_reducible exact Opt2.none | with_reducible exact CT.nil | with_reducible exact CH.nil | with_reducible exact CN.none
      | with_reducible refine' All2.cons ?_ ?_ | with_reducible refine' Opt2.some ?_ | with_reducible refine' CT.cons ?_ ?_ | with_reducible refine' CH.cons ?_ ?_ ?_ ?_ ?_ ?_ | with_reducible refine' CN.some ?_
      | with_reducible refine' CU.atF ?_ ?_ ?_ | with_reducible refine' CU.none ?_ | with_reducible refine' CU.raise ?_ ?_ ?_ ?_ ?_
      | with_reducible refine' CS.asgC ?_ ?_ ?_ | with_reducible refine' CS.asgAt ?_ ?_ | with_reducible refine' CS.asgT ?_ ?_ ?_ | with_reducible refine' CS.asg ?_ ?_ ?_ | with_reducible refine' CS.expr ?_ ?_ | with_reducible refine' CS.ret ?_ | with_reducible refine' CS.ite ?_ ?_ ?_ | with_reducible refine' CS.whil ?_ ?_ | with_reducible refine' CS.range ?_ ?_ ?_ ?_ ?_ | with_reducible refine' CS.forT ?_ ?_ ?_ ?_ | with_reducible refine' CS.forN ?_ ?_ ?_ | with_reducible refine' CS.raise ?_ | with_reducible refine' CS.tryE ?_ ?_
      | with_reducible refine' CE.str ?_ | with_reducible refine' CE.const ?_ | with_reducible refine' CE.andE ?_ | with_reducible refine' CE.orE ?_ | with_reducible refine' CE.notE ?_ | with_reducible exact CE.neg | with_reducible refine' CE.ite ?_ ?_ ?_ | with_reducible refine' CE.bin ?_ ?_ ?_ | with_reducible refine' CE.cmp ?_ ?_ ?_ | with_reducible refine' CE.cmp2 ?_ ?_ ?_ ?_ ?_
      | with_reducible refine' CE.meth ?_ ?_ ?_ ?_ | with_reducible refine' CE.call ?_ ?_ | with_reducible refine' CE.atA ?_ ?_ | with_reducible refine' CE.data ?_ ?_ | with_reducible refine' CE.slice ?_ ?_ ?_ | with_reducible refine' CE.sub ?_ ?_ | with_reducible refine' CE.tup ?_ | with_reducible refine' CE.list ?_ | with_reducible refine' CE.comp ?_ ?_ ?_ | with_reducible refine' CE.compT ?_ ?_ ?_ ?_
      | first
        | ((with_reducible show CE _ _ _ (.Name _ _) _); first
            | (refine' CE.var ?va ?vb; (case va => kernel_rfl); (case vb => exact rfl))
            | ((with_reducible refine' CE.globR ?va ?vb ?vc); (case va => kernel_rfl); (case vb => kernel_rfl); (case vc => decreasing_trivial_pre_omega))
            | ((with_reducible refine' CE.globB ?va ?vb ?vc); (case va => kernel_rfl); (case vb => kernel_rfl); (case vc => decreasing_trivial_pre_omega))
            | ((with_reducible refine' CE.globT ?va ?vb ?vc); (case va => kernel_rfl); (case vb => kernel_rfl); (case vc => decreasing_trivial_pre_omega))
            | ((with_reducible refine' CE.globI ?va ?vb ?vc); (case va => kernel_rfl); (case vb => kernel_rfl); (case vc => decreasing_trivial_pre_omega))
            | ((with_reducible refine' CE.globY ?va ?vb ?vc); (case va => kernel_rfl); (case vb => kernel_rfl); (case vc => decreasing_trivial_pre_omega)))
        | ((with_reducible show locIx _ _ _ = _); exact rfl)
        | ((with_reducible show globV _ _ = _); decreasing_trivial_pre_omega)
        | ((with_reducible show cMeth _ _ = _); with_reducible (first | exact w_space _ | exact w_need _ | exact w_skip _ | exact w_fault _ | exact w_peek _ | exact w_astring _ | exact w_string_or _ | exact w_string _ | exact w_quoted _ | exact w_literal _ | exact w_run _ | exact w_split _ | exact w_lower _ | exact w_upper _ | exact w_pop _ | exact w_index _ | exact w_append _ | exact w_join _))
        | ((with_reducible show Array.toList _ = _); first | (with_reducible (first | exact cp_0 | exact cp_1 | exact cp_2 | exact cp_3 | exact cp_4 | exact cp_5 | exact cp_6 | exact cp_7 | exact cp_8 | exact cp_9 | exact cp_10 | exact cp_11 | exact cp_12 | exact cp_13 | exact cp_14)) | exact rfl)
        | ((with_reducible show cConst _ = _); exact rfl)
        | ((with_reducible show cBin _ = _); exact rfl)
        | ((with_reducible show cCmp _ = _); exact rfl)
        | kernel_rfl
        | decide)
    all_goals decide

noncomputable def F112 : {f : Fn // ∀ P, CF (KP P) 112 f} := by
  refine ⟨⟨?np, ?nl, ?b⟩, fun P => ⟨?oc, ?od, ?fd, ?sl, ?bd, ?h1, ?h2, ?h3, ?h4, ?h5, ?h6⟩⟩
  case h1 => with_unfolding_all rfl
  case h2 => exact rfl
  case h3 => kernel_rfl
  case h5 => exact rfl
  case h6 => exact rfl
  case h4 =>
    dsimp only [List.map_cons, List.map_nil]
    repeat' (first
      | with_reducible exact All2.nil | with_reducible exact Opt2.none | with_reducible exact CT.nil | with_reducible exact CH.nil | with_reducible exact CN.none
      | with_reducible refine' All2.cons ?_ ?_ | with_reducible refine' Opt2.some ?_ | with_reducible refine' CT.cons ?_ ?_ | with_reducible refine' CH.cons ?_ ?_ ?_ ?_ ?_ ?_ | with_reducible refine' CN.some ?_
      | with_reducible refine' CU.atF ?_ ?_ ?_ | with_reducible refine' CU.none ?_ | with_reducible refine' CU.raise ?_ ?_ ?_ ?_ ?_
      | with_reducible refine' CS.asgC ?_ ?_ ?_ | with_reducible refine' CS.asgAt ?_ ?_ | with_reducible refine' CS.asgT ?_ ?_ ?_ | with_reducible refine' CS.asg ?_ ?_ ?_ | with_reducible refine' CS.expr ?_ ?_ | with_reducible refine' CS.ret ?_ | with_reducible refine' CS.ite ?_ ?_ ?_ | with_reducible refine' CS.whil ?_ ?_ | with_reducible refine' CS.range ?_ ?_ ?_ ?_ ?_ | with_reducible refine' CS.forT ?_ ?_ ?_ ?_ | with_reducible refine' CS.forN ?_ ?_ ?_ | with_reducible refine' CS.raise ?_ | with_reducible refine' CS.tryE ?_ ?_
      | with_reducible refine' CE.str ?_ | with_reducible refine' CE.const ?_ | with_reducible refine' CE.andE ?_ | with_reducible refine' CE.orE ?_ | with_reducible refine' CE.notE ?_ | with_reducible exact CE.neg | with_reducible refine' CE.ite ?_ ?_ ?_ | with_reducible refine' CE.bin ?_ ?_ ?_ | with_reducible refine' CE.cmp ?_ ?_ ?_ | with_reducible refine' CE.cmp2 ?_ ?_ ?_ ?_ ?_
      | with_reducible refine' CE.meth ?_ ?_ ?_ ?_ | with_reducible refine' CE.call ?_ ?_ | with_reducible refine' CE.atA ?_ ?_ | with_reducible refine' CE.data ?_ ?_ | with_reducible refine' CE.slice ?_ ?_ ?_ | with_reducible refine' CE.sub ?_ ?_ | with_reducible refine' CE.tup ?_ | with_reducible refine' CE.list ?_ | with_reducible refine' CE.comp ?_ ?_ ?_ | with_reducible refine' CE.compT ?_ ?_ ?_ ?_
      | first
        | ((with_reducible show CE _ _ _ (.Name _ _) _); first
            | (refine' CE.var ?va ?vb; (case va => kernel_rfl); (case vb => exact rfl))
            | ((with_reducible refine' CE.globR ?va ?vb ?vc); (case va => kernel_rfl); (case vb => kernel_rfl); (case vc => decreasing_trivial_pre_omega))
            | ((with_reducible refine' CE.globB ?va ?vb ?vc); (case va => kernel_rfl); (case vb => kernel_rfl); (case vc => decreasing_trivial_pre_omega))
            | ((with_reducible refine' CE.globT ?va ?vb ?vc); (case va => kernel_rfl); (case vb => kernel_rfl); (case vc => decreasing_trivial_pre_omega))
            | ((with_reducible refine' CE.globI ?va ?vb ?vc); (case va => kernel_rfl); (case vb => kernel_rfl); (case vc => decreasing_trivial_pre_omega))
            | ((with_reducible refine' CE.globY ?va ?vb ?vc); (case va => kernel_rfl); (case vb => kernel_rfl); (case vc => decreasing_trivial_pre_omega)))
        | ((with_reducible show locIx _ _ _ = _); exact rfl)
        | ((with_reducible show globV _ _ = _); decreasing_trivial_pre_omega)
        | ((with_reducible show cMeth _ _ = _); with_reducible (first | exact w_space _ | exact w_need _ | exact w_skip _ | exact w_fault _ | exact w_peek _ | exact w_astring _ | exact w_string_or _ | exact w_string _ | exact w_quoted _ | exact w_literal _ | exact w_run _ | exact w_split _ | exact w_lower _ | exact w_upper _ | exact w_pop _ | exact w_index _ | exact w_append _ | exact w_join _))
        | ((with_reducible show Array.toList _ = _); first | (with_reducible (first | exact cp_0 | exact cp_1 | exact cp_2 | exact cp_3 | exact cp_4 | exact cp_5 | exact cp_6 | exact cp_7 | exact cp_8 | exact cp_9 | exact cp_10 | exact cp_11 | exact cp_12 | exact cp_13 | exact cp_14)) | exact rfl)
        | ((with_reducible show cConst _ = _); exact rfl)
        | ((with_reducible show cBin _ = _); exact rfl)
        | ((with_reducible show cCmp _ = _); exact rfl)
        | kernel_rfl
        | decide)
    all_goals decide

noncomputable def F120 : {f : Fn // ∀ P, CF (KP P) 120 f} := by
  refine ⟨⟨?np, ?nl, ?b⟩, fun P => ⟨?oc, ?od, ?fd, ?sl, ?bd, ?h1, ?h2, ?h3, ?h4, ?h5, ?h6⟩⟩
  case h1 => with_unfolding_all rfl
  case h2 => exact rfl
  case h3 => kernel_rfl
  case h5 => exact rfl
  case h6 => exact rfl
  case h4 =>
    dsimp only [List.map_cons, List.map_nil]
    repeat' (first
      | with_reducible exact All2.nil | with_reducible exact Opt2.none | with_reducible exact CT.nil | with_reducible exact CH.nil | with_reducible exact CN.none
      | with_reducible refine' All2.cons ?_ ?_ | with_reducible refine' Opt2.some ?_ | with_reducible refine' CT.cons ?_ ?_ | with_reducible refine' CH.cons ?_ ?_ ?_ ?_ ?_ ?_ | with_reducible refine' CN.some ?_
      | with_reducible refine' CU.atF ?_ ?_ ?_ | with_reducible refine' CU.none ?_ | with_reducible refine' CU.raise ?_ ?_ ?_ ?_ ?_
      | with_reducible refine' CS.asgC ?_ ?_ ?_ | with_reducible refine' CS.asgAt ?_ ?_ | with_reducible refine' CS.asgT ?_ ?_ ?_ | with_reducible refine' CS.asg ?_ ?_ ?_ | with_reducible refine' CS.expr ?_ ?_ | with_reducible refine' CS.ret ?_ | with_reducible refine' CS.ite ?_ ?_ ?_ | with_reducible refine' CS.whil ?_ ?_ | with_reducible refine' CS.range ?_ ?_ ?_ ?_ ?_ | with_reducible refine' CS.forT ?_ ?_ ?_ ?_ | with_reducible refine' CS.forN ?_ ?_ ?_ | with_reducible refine' CS.raise ?_ | with_reducible refine' CS.tryE ?_ ?_
      | with_reducible refine' CE.str ?_ | with_reducible refine' CE.const ?_ | with_reducible refine' CE.andE ?_ | with_reducible refine' CE.orE ?_ | with_reducible refine' CE.notE ?_ | with_reducible exact CE.neg | with_reducible refine' CE.ite ?_ ?_ ?_ | with_reducible refine' CE.bin ?_ ?_ ?_ | with_reducible refine' CE.cmp ?_ ?_ ?_ | with_reducible refine' CE.cmp2 ?_ ?_ ?_ ?_ ?_
      | with_reducible refine' CE.meth ?_ ?_ ?_ ?_ | with_reducible refine' CE.call ?_ ?_ | with_reducible refine' CE.atA ?_ ?_ | with_reducible refine' CE.data ?_ ?_ | with_reducible refine' CE.slice ?_ ?_ ?_ | with_reducible refine' CE.sub ?_ ?_ | with_reducible refine' CE.tup ?_ | with_reducible refine' CE.list ?_ | with_reducible refine' CE.comp ?_ ?_ ?_ | with_reducible refine' CE.compT ?_ ?_ ?_ ?_
      | first
        | ((with_reducible show CE _ _ _ (.Name _ _) _); first
            | (refine' CE.var ?va ?vb; (case va => kernel_rfl); (case vb => exact rfl))
            | ((with_reducible refine' CE.globR ?va ?vb ?vc); (case va => kernel_rfl); (case vb => kernel_rfl); (case vc => decreasing_trivial_pre_omega))
            | ((with_reducible refine' CE.globB ?va ?vb ?vc); (case va => kernel_rfl); (case vb => kernel_rfl); (case vc => decreasing_trivial_pre_omega))
            | ((with_reducible refine' CE.globT ?va ?vb ?vc); (case va => kernel_rfl); (case vb => kernel_rfl); (case vc => decreasing_trivial_pre_omega))
            | ((with_reducible refine' CE.globI ?va ?vb ?vc); (case va => kernel_rfl); (case vb => kernel_rfl); (case vc => decreasing_trivial_pre_omega))
            | ((with_reducible refine' CE.globY ?va ?vb ?vc); (case va => kernel_rfl); (case vb => kernel_rfl); (case vc => decreasing_trivial_pre_omega)))
        | ((with_reducible show locIx _ _ _ = _); exact rfl)
        | ((with_reducible show globV _ _ = _); decreasing_trivial_pre_omega)
        | ((with_reducible show cMeth _ _ = _); with_reducible (first | exact w_space _ | exact w_need _ | exact w_skip _ | exact w_fault _ | exact w_peek _ | exact w_astring _ | exact w_string_or _ | exact w_string _ | exact w_quoted _ | exact w_literal _ | exact w_run _ | exact w_split _ | exact w_lower _ | exact w_upper _ | exact w_pop _ | exact w_index _ | exact w_append _ | exact w_join _))
        | ((with_reducible show Array.toList _ = _); first | (with_reducible (first | exact cp_0 | exact cp_1 | exact cp_2 | exact cp_3 | exact cp_4 | exact cp_5 | exact cp_6 | exact cp_7 | exact cp_8 | exact cp_9 | exact cp_10 | exact cp_11 | exact cp_12 | exact cp_13 | exact cp_14)) | exact rfl)
        | ((with_reducible show cConst _ = _); exact rfl)
        | ((with_reducible show cBin _ = _); exact rfl)
        | ((with_reducible show cCmp _ = _); exact rfl)
        | kernel_rfl
        | decide)
    all_goals decide

noncomputable def F127 : {f : Fn // ∀ P, CF (KP P) 127 f} := by
  refine ⟨⟨?np, ?nl, ?b⟩, fun P => ⟨?oc, ?od, ?fd, ?sl, ?bd, ?h1, ?h2, ?h3, ?h4, ?h5, ?h6⟩⟩
  case h1 => with_unfolding_all rfl
  case h2 => exact rfl
  case h3 => kernel_rfl
  case h5 => exact rfl
  case h6 => exact rfl
  case h4 =>
    dsimp only [List.map_cons, List.map_nil]
    repeat' (first
      | with_reducible exact All2.nil | with_reducible exact Opt2.none | with_reducible exact CT.nil | with_reducible exact CH.nil | with_reducible exact CN.none
      | with_reducible refine' All2.cons ?_ ?_ | with_reducible refine' Opt2.some ?_ | with_reducible refine' CT.cons ?_ ?_ | with_reducible refine' CH.cons ?_ ?_ ?_ ?_ ?_ ?_ | with_reducible refine' CN.some ?_
      | with_reducible refine' CU.atF ?_ ?_ ?_ | with_reducible refine' CU.none ?_ | with_reducible refine' CU.raise ?_ ?_ ?_ ?_ ?_
      | with_reducible refine' CS.asgC ?_ ?_ ?_ | with_reducible refine' CS.asgAt ?_ ?_ | with_reducible refine' CS.asgT ?_ ?_ ?_ | with_reducible refine' CS.asg ?_ ?_ ?_ | with_reducible refine' CS.expr ?_ ?_ | with_reducible refine' CS.ret ?_ | with_reducible refine' CS.ite ?_ ?_ ?_ | with_reducible refine' CS.whil ?_ ?_ | with_reducible refine' CS.range ?_ ?_ ?_ ?_ ?_ | with_reducible refine' CS.forT ?_ ?_ ?_ ?_ | with_reducible refine' CS.forN ?_ ?_ ?_ | with_reducible refine' CS.raise ?_ | with_reducible refine' CS.tryE ?_ ?_
      | with_reducible refine' CE.str ?_ | with_reducible refine' CE.const ?_ | with_reducible refine' CE.andE ?_ | with_reducible refine' CE.orE ?_ | with_reducible refine' CE.notE ?_ | with_reducible exact CE.neg | with_reducible refine' CE.ite ?_ ?_ ?_ | with_reducible refine' CE.bin ?_ ?_ ?_ | with_reducible refine' CE.cmp ?_ ?_ ?_ | with_reducible refine' CE.cmp2 ?_ ?_ ?_ ?_ ?_
      | with_reducible refine' CE.meth ?_ ?_ ?_ ?_ | with_reducible refine' CE.call ?_ ?_ | with_reducible refine' CE.atA ?_ ?_ | with_reducible refine' CE.data ?_ ?_ | with_reducible refine' CE.slice ?_ ?_ ?_ | with_reducible refine' CE.sub ?_ ?_ | with_reducible refine' CE.tup ?_ | with_reducible refine' CE.list ?_ | with_reducible refine' CE.comp ?_ ?_ ?_ | with_reducible refine' CE.compT ?_ ?_ ?_ ?_
      | first
        | ((with_reducible show CE _ _ _ (.Name _ _) _); first
            | (refine' CE.var ?va ?vb; (case va => kernel_rfl); (case vb => exact rfl))
            | ((with_reducible refine' CE.globR ?va ?vb ?vc); (case va => kernel_rfl); (case vb => kernel_rfl); (case vc => decreasing_trivial_pre_omega))
            | ((with_reducible refine' CE.globB ?va ?vb ?vc); (case va => kernel_rfl); (case vb => kernel_rfl); (case vc => decreasing_trivial_pre_omega))
            | ((with_reducible refine' CE.globT ?va ?vb ?vc); (case va => kernel_rfl); (case vb => kernel_rfl); (case vc => decreasing_trivial_pre_omega))
            | ((with_reducible refine' CE.globI ?va ?vb ?vc); (case va => kernel_rfl); (case vb => kernel_rfl); (case vc => decreasing_trivial_pre_omega))
            | ((with_reducible refine' CE.globY ?va ?vb ?vc); (case va => kernel_rfl); (case vb => kernel_rfl); (case vc => decreasing_trivial_pre_omega)))
        | ((with_reducible show locIx _ _ _ = _); exact rfl)
        | ((with_reducible show globV _ _ = _); decreasing_trivial_pre_omega)
        | ((with_reducible show cMeth _ _ = _); with_reducible (first | exact w_space _ | exact w_need _ | exact w_skip _ | exact w_fault _ | exact w_peek _ | exact w_astring _ | exact w_string_or _ | exact w_string _ | exact w_quoted _ | exact w_literal _ | exact w_run _ | exact w_split _ | exact w_lower _ | exact w_upper _ | exact w_pop _ | exact w_index _ | exact w_append _ | exact w_join _))
        | ((with_reducible show Array.toList _ = _); first | (with_reducible (first | exact cp_0 | exact cp_1 | exact cp_2 | exact cp_3 | exact cp_4 | exact cp_5 | exact cp_6 | exact cp_7 | exact cp_8 | exact cp_9 | exact cp_10 | exact cp_11 | exact cp_12 | exact cp_13 | exact cp_14)) | exact rfl)
        | ((with_reducible show cConst _ = _); exact rfl)
        | ((with_reducible show cBin _ = _); exact rfl)
        | ((with_reducible show cCmp _ = _); exact rfl)
        | kernel_rfl
        | decide)
    all_goals decide

noncomputable def F134 : {f : Fn // ∀ P, CF (KP P) 134 f} := by
  refine ⟨⟨?np, ?nl, ?b⟩, fun P => ⟨?oc, ?od, ?fd, ?sl, ?bd, ?h1, ?h2, ?h3, ?h4, ?h5, ?h6⟩⟩
  case h1 => with_unfolding_all rfl
  case h2 => exact rfl
  case h3 => kernel_rfl
  case h5 => exact rfl
  case h6 => exact rfl
  case h4 =>
    dsimp only [List.map_cons, List.map_nil]
    repeat' (first
      | with_reducible exact All2.nil | with_reducible exact Opt2.none | with_reducible exact CT.nil | with_reducible exact CH.nil | with_reducible exact CN.none
      | with_reducible refine' All2.cons ?_ ?_ | with_reducible refine' Opt2.some ?_ | with_reducible refine' CT.cons ?_ ?_ | with_reducible refine' CH.cons ?_ ?_ ?_ ?_ ?_ ?_ | with_reducible refine' CN.some ?_
      | with_reducible refine' CU.atF ?_ ?_ ?_ | with_reducible refine' CU.none ?_ | with_reducible refine' CU.raise ?_ ?_ ?_ ?_ ?_
      | with_reducible refine' CS.asgC ?_ ?_ ?_ | with_reducible refine' CS.asgAt ?_ ?_ | with_reducible refine' CS.asgT ?_ ?_ ?_ | with_reducible refine' CS.asg ?_ ?_ ?_ | with_reducible refine' CS.expr ?_ ?_ | with_reducible refine' CS.ret ?_ | with_reducible refine' CS.ite ?_ ?_ ?_ | with_reducible refine' CS.whil ?_ ?_ | with_reducible refine' CS.range ?_ ?_ ?_ ?_ ?_ | with_reducible refine' CS.forT ?_ ?_ ?_ ?_ | with_reducible refine' CS.forN ?_ ?_ ?_ | with_reducible refine' CS.raise ?_ | with_reducible refine' CS.tryE ?_ ?_
      | with_reducible refine' CE.str ?_ | with_reducible refine' CE.const ?_ | with_reducible refine' CE.andE ?_ | with_reducible refine' CE.orE ?_ | with_reducible refine' CE.notE ?_ | with_reducible exact CE.neg | with_reducible refine' CE.ite ?_ ?_ ?_ | with_reducible refine' CE.bin ?_ ?_ ?_ | with_reducible refine' CE.cmp ?_ ?_ ?_ | with_reducible refine' CE.cmp2 ?_ ?_ ?_ ?_ ?_
      | with_reducible refine' CE.meth ?_ ?_ ?_ ?_ | with_reducible refine' CE.call ?_ ?_ | with_reducible refine' CE.atA ?_ ?_ | with_reducible refine' CE.data ?_ ?_ | with_reducible refine' CE.slice ?_ ?_ ?_ | with_reducible refine' CE.sub ?_ ?_ | with_reducible refine' CE.tup ?_ | with_reducible refine' CE.list ?_ | with_reducible refine' CE.comp ?_ ?_ ?_ | with_reducible refine' CE.compT ?_ ?_ ?_ ?_
      | first
        | ((with_reducible show CE _ _ _ (.Name _ _) _); first
            | (refine' CE.var ?va ?vb; (case va => kernel_rfl); (case vb => exact rfl))
            | ((with_reducible refine' CE.globR ?va ?vb ?vc); (case va => kernel_rfl); (case vb => kernel_rfl); (case vc => decreasing_trivial_pre_omega))
            | ((with_reducible refine' CE.globB ?va ?vb ?vc); (case va => kernel_rfl); (case vb => kernel_rfl); (case vc => decreasing_trivial_pre_omega))
            | ((with_reducible refine' CE.globT ?va ?vb ?vc); (case va => kernel_rfl); (case vb => kernel_rfl); (case vc => decreasing_trivial_pre_omega))
            | ((with_reducible refine' CE.globI ?va ?vb ?vc); (case va => kernel_rfl); (case vb => kernel_rfl); (case vc => decreasing_trivial_pre_omega))
            | ((with_reducible refine' CE.globY ?va ?vb ?vc); (case va => kernel_rfl); (case vb => kernel_rfl); (case vc => decreasing_trivial_pre_omega)))
        | ((with_reducible show locIx _ _ _ = _); exact rfl)
        | ((with_reducible show globV _ _ = _); decreasing_trivial_pre_omega)
        | ((with_reducible show cMeth _ _ = _); with_reducible (first | exact w_space _ | exact w_need _ | exact w_skip _ | exact w_fault _ | exact w_peek _ | exact w_astring _ | exact w_string_or _ | exact w_string _ | exact w_quoted _ | exact w_literal _ | exact w_run _ | exact w_split _ | exact w_lower _ | exact w_upper _ | exact w_pop _ | exact w_index _ | exact w_append _ | exact w_join _))
        | ((with_reducible show Array.toList _ = _); first | (with_reducible (first | exact cp_0 | exact cp_1 | exact cp_2 | exact cp_3 | exact cp_4 | exact cp_5 | exact cp_6 | exact cp_7 | exact cp_8 | exact cp_9 | exact cp_10 | exact cp_11 | exact cp_12 | exact cp_13 | exact cp_14)) | exact rfl)
        | ((with_reducible show cConst _ = _); exact rfl)
        | ((with_reducible show cBin _ = _); exact rfl)
        | ((with_reducible show cCmp _ = _); exact rfl)
        | kernel_rfl
        | decide)
    all_goals decide

noncomputable def F139 : {f : Fn // ∀ P, CF (KP P) 139 f} := by
  refine ⟨⟨?np, ?nl, ?b⟩, fun P => ⟨?oc, ?od, ?fd, ?sl, ?bd, ?h1, ?h2, ?h3, ?h4, ?h5, ?h6⟩⟩
  case h1 => with_unfolding_all rfl
  case h2 => exact rfl
  case h3 => kernel_rfl
  case h5 => exact rfl
  case h6 => exact rfl
  case h4 =>
    dsimp only [List.map_cons, List.map_nil]
    repeat' (first
      | with_reducible exact All2.nil | with_reducible exact Opt2.none | with_reducible exact CT.nil | with_reducible exact CH.nil | with_reducible exact CN.none
      | with_reducible refine' All2.cons ?_ ?_ | with_reducible refine' Opt2.some ?_ | with_reducible refine' CT.cons ?_ ?_ | with_reducible refine' CH.cons ?_ ?_ ?_ ?_ ?_ ?_ | with_reducible refine' CN.some ?_
      | with_reducible refine' CU.atF ?_ ?_ ?_ | with_reducible refine' CU.none ?_ | with_reducible refine' CU.raise ?_ ?_ ?_ ?_ ?_
      | with_reducible refine' CS.asgC ?_ ?_ ?_ | with_reducible refine' CS.asgAt ?_ ?_ | with_reducible refine' CS.asgT ?_ ?_ ?_ | with_reducible refine' CS.asg ?_ ?_ ?_ | with_reducible refine' CS.expr ?_ ?_ | with_reducible refine' CS.ret ?_ | with_reducible refine' CS.ite ?_ ?_ ?_ | with_reducible refine' CS.whil ?_ ?_ | with_reducible refine' CS.range ?_ ?_ ?_ ?_ ?_ | with_reducible refine' CS.forT ?_ ?_ ?_ ?_ | with_reducible refine' CS.forN ?_ ?_ ?_ | with_reducible refine' CS.raise ?_ | with_reducible refine' CS.tryE ?_ ?_
      | with_reducible refine' CE.str ?_ | with_reducible refine' CE.const ?_ | with_reducible refine' CE.andE ?_ | with_reducible refine' CE.orE ?_ | with_reducible refine' CE.notE ?_ | with_reducible exact CE.neg | with_reducible refine' CE.ite ?_ ?_ ?_ | with_reducible refine' CE.bin ?_ ?_ ?_ | with_reducible refine' CE.cmp ?_ ?_ ?_ | with_reducible refine' CE.cmp2 ?_ ?_ ?_ ?_ ?_
      | with_reducible refine' CE.meth ?_ ?_ ?_ ?_ | with_reducible refine' CE.call ?_ ?_ | with_reducible refine' CE.atA ?_ ?_ | with_reducible refine' CE.data ?_ ?_ | with_reducible refine' CE.slice ?_ ?_ ?_ | with_reducible refine' CE.sub ?_ ?_ | with_reducible refine' CE.tup ?_ | with_reducible refine' CE.list ?_ | with_reducible refine' CE.comp ?_ ?_ ?_ | with_reducible refine' CE.compT ?_ ?_ ?_ ?_
      | first
        | ((with_reducible show CE _ _ _ (.Name _ _) _); first
            | (refine' CE.var ?va ?vb; (case va => kernel_rfl); (case vb => exact rfl))
            | ((with_reducible refine' CE.globR ?va ?vb ?vc); (case va => kernel_rfl); (case vb => kernel_rfl); (case vc => decreasing_trivial_pre_omega))
            | ((with_reducible refine' CE.globB ?va ?vb ?vc); (case va => kernel_rfl); (case vb => kernel_rfl); (case vc => decreasing_trivial_pre_omega))
            | ((with_reducible refine' CE.globT ?va ?vb ?vc); (case va => kernel_rfl); (case vb => kernel_rfl); (case vc => decreasing_trivial_pre_omega))
            | ((with_reducible refine' CE.globI ?va ?vb ?vc); (case va => kernel_rfl); (case vb => kernel_rfl); (case vc => decreasing_trivial_pre_omega))
            | ((with_reducible refine' CE.globY ?va ?vb ?vc); (case va => kernel_rfl); (case vb => kernel_rfl); (case vc => decreasing_trivial_pre_omega)))
        | ((with_reducible show locIx _ _ _ = _); exact rfl)
        | ((with_reducible show globV _ _ = _); decreasing_trivial_pre_omega)
        | ((with_reducible show cMeth _ _ = _); with_reducible (first | exact w_space _ | exact w_need _ | exact w_skip _ | exact w_fault _ | exact w_peek _ | exact w_astring _ | exact w_string_or _ | exact w_string _ | exact w_quoted _ | exact w_literal _ | exact w_run _ | exact w_split _ | exact w_lower _ | exact w_upper _ | exact w_pop _ | exact w_index _ | exact w_append _ | exact w_join _))
        | ((with_reducible show Array.toList _ = _); first | (with_reducible (first | exact cp_0 | exact cp_1 | exact cp_2 | exact cp_3 | exact cp_4 | exact cp_5 | exact cp_6 | exact cp_7 | exact cp_8 | exact cp_9 | exact cp_10 | exact cp_11 | exact cp_12 | exact cp_13 | exact cp_14)) | exact rfl)
        | ((with_reducible show cConst _ = _); exact rfl)
        | ((with_reducible show cBin _ = _); exact rfl)
        | ((with_reducible show cCmp _ = _); exact rfl)
        | kernel_rfl
        | decide)
    all_goals decide

noncomputable def F144 : {f : Fn // ∀ P, CF (KP P) 144 f} := by
  refine ⟨⟨?np, ?nl, ?b⟩, fun P => ⟨?oc, ?od, ?fd, ?sl, ?bd, ?h1, ?h2, ?h3, ?h4, ?h5, ?h6⟩⟩
  case h1 => with_unfolding_all rfl
  case h2 => exact rfl
  case h3 => kernel_rfl
  case h5 => exact rfl
  case h6 => exact rfl
  case h4 =>
    dsimp only [List.map_cons, List.map_nil]
    repeat' (first
      | with_reducible exact All2.nil | with_reducible exact Opt2.none | with_reducible exact CT.nil | with_reducible exact CH.nil | with_reducible exact CN.none
      | with_reducible refine' All2.cons ?_ ?_ | with_reducible refine' Opt2.some ?_ | with_reducible refine' CT.cons ?_ ?_ | with_reducible refine' CH.cons ?_ ?_ ?_ ?_ ?_ ?_ | with_reducible refine' CN.some ?_
      | with_reducible refine' CU.atF ?_ ?_ ?_ | with_reducible refine' CU.none ?_ | with_reducible refine' CU.raise ?_ ?_ ?_ ?_ ?_
      | with_reducible refine' CS.asgC ?_ ?_ ?_ | with_reducible refine' CS.asgAt ?_ ?_ | with_reducible refine' CS.asgT ?_ ?_ ?_ | with_reducible refine' CS.asg ?_ ?_ ?_ | with_reducible refine' CS.expr ?_ ?_ | with_reducible refine' CS.ret ?_ | with_reducible refine' CS.ite ?_ ?_ ?_ | with_reducible refine' CS.whil ?_ ?_ | with_reducible refine' CS.range ?_ ?_ ?_ ?_ ?_ | with_reducible refine' CS.forT ?_ ?_ ?_ ?_ | with_reducible refine' CS.forN ?_ ?_ ?_ | with_reducible refine' CS.raise ?_ | with_reducible refine' CS.tryE ?_ ?_
      | with_reducible refine' CE.str ?_ | with_reducible refine' CE.const ?_ | with_reducible refine' CE.andE ?_ | with_reducible refine' CE.orE ?_ | with_reducible refine' CE.notE ?_ | with_reducible exact CE.neg | with_reducible refine' CE.ite ?_ ?_ ?_ | with_reducible refine' CE.bin ?_ ?_ ?_ | with_reducible refine' CE.cmp ?_ ?_ ?_ | with_reducible refine' CE.cmp2 ?_ ?_ ?_ ?_ ?_
      | with_reducible refine' CE.meth ?_ ?_ ?_ ?_ | with_reducible refine' CE.call ?_ ?_ | with_reducible refine' CE.atA ?_ ?_ | with_reducible refine' CE.data ?_ ?_ | with_reducible refine' CE.slice ?_ ?_ ?_ | with_reducible refine' CE.sub ?_ ?_ | with_reducible refine' CE.tup ?_ | with_reducible refine' CE.list ?_ | with_reducible refine' CE.comp ?_ ?_ ?_ | with_reducible refine' CE.compT ?_ ?_ ?_ ?_
      | first
        | ((with_reducible show CE _ _ _ (.Name _ _) _); first
            | (refine' CE.var ?va ?vb; (case va => kernel_rfl); (case vb => exact rfl))
            | ((with_reducible refine' CE.globR ?va ?vb ?vc); (case va => kernel_rfl); (case vb => kernel_rfl); (case vc => decreasing_trivial_pre_omega))
            | ((with_reducible refine' CE.globB ?va ?vb ?vc); (case va => kernel_rfl); (case vb => kernel_rfl); (case vc => decreasing_trivial_pre_omega))
            | ((with_reducible refine' CE.globT ?va ?vb ?vc); (case va => kernel_rfl); (case vb => kernel_rfl); (case vc => decreasing_trivial_pre_omega))
            | ((with_reducible refine' CE.globI ?va ?vb ?vc); (case va => kernel_rfl); (case vb => kernel_rfl); (case vc => decreasing_trivial_pre_omega))
            | ((with_reducible refine' CE.globY ?va ?vb ?vc); (case va => kernel_rfl); (case vb => kernel_rfl); (case vc => decreasing_trivial_pre_omega)))
        | ((with_reducible show locIx _ _ _ = _); exact rfl)
        | ((with_reducible show globV _ _ = _); decreasing_trivial_pre_omega)
        | ((with_reducible show cMeth _ _ = _); with_reducible (first | exact w_space _ | exact w_need _ | exact w_skip _ | exact w_fault _ | exact w_peek _ | exact w_astring _ | exact w_string_or _ | exact w_string _ | exact w_quoted _ | exact w_literal _ | exact w_run _ | exact w_split _ | exact w_lower _ | exact w_upper _ | exact w_pop _ | exact w_index _ | exact w_append _ | exact w_join _))
        | ((with_reducible show Array.toList _ = _); first | (with_reducible (first | exact cp_0 | exact cp_1 | exact cp_2 | exact cp_3 | exact cp_4 | exact cp_5 | exact cp_6 | exact cp_7 | exact cp_8 | exact cp_9 | exact cp_10 | exact cp_11 | exact cp_12 | exact cp_13 | exact cp_14)) | exact rfl)
        | ((with_reducible show cConst _ = _); exact rfl)
        | ((with_reducible show cBin _ = _); exact rfl)
        | ((with_reducible show cCmp _ = _); exact rfl)
        | kernel_rfl
        | decide)
    all_goals decide

noncomputable def F151 : {f : Fn // ∀ P, CF (KP P) 151 f} := by
  refine ⟨⟨?np, ?nl, ?b⟩, fun P => ⟨?oc, ?od, ?fd, ?sl, ?bd, ?h1, ?h2, ?h3, ?h4, ?h5, ?h6⟩⟩
  case h1 => with_unfolding_all rfl
  case h2 => exact rfl
  case h3 => kernel_rfl
  case h5 => exact rfl
  case h6 => exact rfl
  case h4 =>
    dsimp only [List.map_cons, List.map_nil]
    repeat' (first
      | with_reducible exact All2.nil | with_reducible exact Opt2.none | with_reducible exact CT.nil | with_reducible exact CH.nil | with_reducible exact CN.none
      | with_reducible refine' All2.cons ?_ ?_ | with_reducible refine' Opt2.some ?_ | with_reducible refine' CT.cons ?_ ?_ | with_reducible refine' CH.cons ?_ ?_ ?_ ?_ ?_ ?_ | with_reducible refine' CN.some ?_
      | with_reducible refine' CU.atF ?_ ?_ ?_ | with_reducible refine' CU.none ?_ | with_reducible refine' CU.raise ?_ ?_ ?_ ?_ ?_
      | with_reducible refine' CS.asgC ?_ ?_ ?_ | with_reducible refine' CS.asgAt ?_ ?_ | with_reducible refine' CS.asgT ?_ ?_ ?_ | with_reducible refine' CS.asg ?_ ?_ ?_ | with_reducible refine' CS.expr ?_ ?_ | with_reducible refine' CS.ret ?_ | with_reducible refine' CS.ite ?_ ?_ ?_ | with_reducible refine' CS.whil ?_ ?_ | with_reducible refine' CS.range ?_ ?_ ?_ ?_ ?_ | with_reducible refine' CS.forT ?_ ?_ ?_ ?_ | with_reducible refine' CS.forN ?_ ?_ ?_ | with_reducible refine' CS.raise ?_ | with_reducible refine' CS.tryE ?_ ?_
      | with_reducible refine' CE.str ?_ | with_reducible refine' CE.const ?_ | with_reducible refine' CE.andE ?_ | with_reducible refine' CE.orE ?_ | with_reducible refine' CE.notE ?_ | with_reducible exact CE.neg | with_reducible refine' CE.ite ?_ ?_ ?_ | with_reducible refine' CE.bin ?_ ?_ ?_ | with_reducible refine' CE.cmp ?_ ?_ ?_ | with_reducible refine' CE.cmp2 ?_ ?_ ?_ ?_ ?_
      | with_reducible refine' CE.meth ?_ ?_ ?_ ?_ | with_reducible refine' CE.call ?_ ?_ | with_reducible refine' CE.atA ?_ ?_ | with_reducible refine' CE.data ?_ ?_ | with_reducible refine' CE.slice ?_ ?_ ?_ | with_reducible refine' CE.sub ?_ ?_ | with_reducible refine' CE.tup ?_ | with_reducible refine' CE.list ?_ | with_reducible refine' CE.comp ?_ ?_ ?_ | with_reducible refine' CE.compT ?_ ?_ ?_ ?_
      | first
        | ((with_reducible show CE _ _ _ (.Name _ _) _); first
            | (refine' CE.var ?va ?vb; (case va => kernel_rfl); (case vb => exact rfl))
            | ((with_reducible refine' CE.globR ?va ?vb ?vc); (case va => kernel_rfl); (case vb => kernel_rfl); (case vc => decreasing_trivial_pre_omega))
            | ((with_reducible refine' CE.globB ?va ?vb ?vc); (case va => kernel_rfl); (case vb => kernel_rfl); (case vc => decreasing_trivial_pre_omega))
            | ((with_reducible refine' CE.globT ?va ?vb ?vc); (case va => kernel_rfl); (case vb => kernel_rfl); (case vc => decreasing_trivial_pre_omega))
            | ((with_reducible refine' CE.globI ?va ?vb ?vc); (case va => kernel_rfl); (case vb => kernel_rfl); (case vc => decreasing_trivial_pre_omega))
            | ((with_reducible refine' CE.globY ?va ?vb ?vc); (case va => kernel_rfl); (case vb => kernel_rfl); (case vc => decreasing_trivial_pre_omega)))
        | ((with_reducible show locIx _ _ _ = _); exact rfl)
        | ((with_reducible show globV _ _ = _); decreasing_trivial_pre_omega)
        | ((with_reducible show cMeth _ _ = _); with_reducible (first | exact w_space _ | exact w_need _ | exact w_skip _ | exact w_fault _ | exact w_peek _ | exact w_astring _ | exact w_string_or _ | exact w_string _ | exact w_quoted _ | exact w_literal _ | exact w_run _ | exact w_split _ | exact w_lower _ | exact w_upper _ | exact w_pop _ | exact w_index _ | exact w_append _ | exact w_join _))
        | ((with_reducible show Array.toList _ = _); first | (with_reducible (first | exact cp_0 | exact cp_1 | exact cp_2 | exact cp_3 | exact cp_4 | exact cp_5 | exact cp_6 | exact cp_7 | exact cp_8 | exact cp_9 | exact cp_10 | exact cp_11 | exact cp_12 | exact cp_13 | exact cp_14)) | exact rfl)
        | ((with_reducible show cConst _ = _); exact rfl)
        | ((with_reducible show cBin _ = _); exact rfl)
        | ((with_reducible show cCmp _ = _); exact rfl)
        | kernel_rfl
        | decide)
    all_goals decide

noncomputable def F158 : {f : Fn // ∀ P, CF (KP P) 158 f} := by
  refine ⟨⟨?np, ?nl, ?b⟩, fun P => ⟨?oc, ?od, ?fd, ?sl, ?bd, ?h1, ?h2, ?h3, ?h4, ?h5, ?h6⟩⟩
  case h1 => with_unfolding_all rfl
  case h2 => exact rfl
  case h3 => kernel_rfl
  case h5 => exact rfl
  case h6 => exact rfl
  case h4 =>
    dsimp only [List.map_cons, List.map_nil]
    repeat' (first
      | with_reducible exact All2.nil | with_reducible exact Opt2.none | with_reducible exact CT.nil | with_reducible exact CH.nil | with_reducible exact CN.none
      | with_reducible refine' All2.cons ?_ ?_ | with_reducible refine' Opt2.some ?_ | with_reducible refine' CT.cons ?_ ?_ | with_reducible refine' CH.cons ?_ ?_ ?_ ?_ ?_ ?_ | with_reducible refine' CN.some ?_
      | with_reducible refine' CU.atF ?_ ?_ ?_ | with_reducible refine' CU.none ?_ | with_reducible refine' CU.raise ?_ ?_ ?_ ?_ ?_
      | with_reducible refine' CS.asgC ?_ ?_ ?_ | with_reducible refine' CS.asgAt ?_ ?_ | with_reducible refine' CS.asgT ?_ ?_ ?_ | with_reducible refine' CS.asg ?_ ?_ ?_ | with_reducible refine' CS.expr ?_ ?_ | with_reducible refine' CS.ret ?_ | with_reducible refine' CS.ite ?_ ?_ ?_ | with_reducible refine' CS.whil ?_ ?_ | with_reducible refine' CS.range ?_ ?_ ?_ ?_ ?_ | with_reducible refine' CS.forT ?_ ?_ ?_ ?_ | with_reducible refine' CS.forN ?_ ?_ ?_ | with_reducible refine' CS.raise ?_ | with_reducible refine' CS.tryE ?_ ?_
      | with_reducible refine' CE.str ?_ | with_reducible refine' CE.const ?_ | with_reducible refine' CE.andE ?_ | with_reducible refine' CE.orE ?_ | with_reducible refine' CE.notE ?_ | with_reducible exact CE.neg | with_reducible refine' CE.ite ?_ ?_ ?_ | with_reducible refine' CE.bin ?_ ?_ ?_ | with_reducible refine' CE.cmp ?_ ?_ ?_ | with_reducible refine' CE.cmp2 ?_ ?_ ?_ ?_ ?_
      | with_reducible refine' CE.meth ?_ ?_ ?_ ?_ | with_reducible refine' CE.call ?_ ?_ | with_reducible refine' CE.atA ?_ ?_ | with_reducible refine' CE.data ?_ ?_ | with_reducible refine' CE.slice ?_ ?_ ?_ | with_reducible refine' CE.sub ?_ ?_ | with_reducible refine' CE.tup ?_ | with_reducible refine' CE.list ?_ | with_reducible refine' CE.comp ?_ ?_ ?_ | with_reducible refine' CE.compT ?_ ?_ ?_ ?_
      | first
        | ((with_reducible show CE _ _ _ (.Name _ _) _); first
            | (refine' CE.var ?va ?vb; (case va => kernel_rfl); (case vb => exact rfl))
            | ((with_reducible refine' CE.globR ?va ?vb ?vc); (case va => kernel_rfl); (case vb => kernel_rfl); (case vc => decreasing_trivial_pre_omega))
            | ((with_reducible refine' CE.globB ?va ?vb ?vc); (case va => kernel_rfl); (case vb => kernel_rfl); (case vc => decreasing_trivial_pre_omega))
            | ((with_reducible refine' CE.globT ?va ?vb ?vc); (case va => kernel_rfl); (case vb => kernel_rfl); (case vc => decreasing_trivial_pre_omega))
            | ((with_reducible refine' CE.globI ?va ?vb ?vc); (case va => kernel_rfl); (case vb => kernel_rfl); (case vc => decreasing_trivial_pre_omega))
            | ((with_reducible refine' CE.globY ?va ?vb ?vc); (case va => kernel_rfl); (case vb => kernel_rfl); (case vc => decreasing_trivial_pre_omega)))
        | ((with_reducible show locIx _ _ _ = _); exact rfl)
        | ((with_reducible show globV _ _ = _); decreasing_trivial_pre_omega)
        | ((with_reducible show cMeth _ _ = _); with_reducible (first | exact w_space _ | exact w_need _ | exact w_skip _ | exact w_fault _ | exact w_peek _ | exact w_astring _ | exact w_string_or _ | exact w_string _ | exact w_quoted _ | exact w_literal _ | exact w_run _ | exact w_split _ | exact w_lower _ | exact w_upper _ | exact w_pop _ | exact w_index _ | exact w_append _ | exact w_join _))
        | ((with_reducible show Array.toList _ = _); first | (with_reducible (first | exact cp_0 | exact cp_1 | exact cp_2 | exact cp_3 | exact cp_4 | exact cp_5 | exact cp_6 | exact cp_7 | exact cp_8 | exact cp_9 | exact cp_10 | exact cp_11 | exact cp_12 | exact cp_13 | exact cp_14)) | exact rfl)
        | ((with_reducible show cConst _ = _); exact rfl)
        | ((with_reducible show cBin _ = _); exact rfl)
        | ((with_reducible show cCmp _ = _); exact rfl)
        | kernel_rfl
        | decide)
    all_goals decide

noncomputable def F165 : {f : Fn // ∀ P, CF (KP P) 165 f} := by
  refine ⟨⟨?np, ?nl, ?b⟩, fun P => ⟨?oc, ?od, ?fd, ?sl, ?bd, ?h1, ?h2, ?h3, ?h4, ?h5, ?h6⟩⟩
  case h1 => with_unfolding_all rfl
  case h2 => exact rfl
  case h3 => kernel_rfl
  case h5 => exact rfl
  case h6 => exact rfl
  case h4 =>
    dsimp only [List.map_cons, List.map_nil]
    repeat' (first
      | with_reducible exact All2.nil | with_reducible exact Opt2.none | with_reducible exact CT.nil | with_reducible exact CH.nil | with_reducible exact CN.none
      | with_reducible refine' All2.cons ?_ ?_ | with_reducible refine' Opt2.some ?_ | with_reducible refine' CT.cons ?_ ?_ | with_reducible refine' CH.cons ?_ ?_ ?_ ?_ ?_ ?_ | with_reducible refine' CN.some ?_
      | with_reducible refine' CU.atF ?_ ?_ ?_ | with_reducible refine' CU.none ?_ | with_reducible refine' CU.raise ?_ ?_ ?_ ?_ ?_
      | with_reducible refine' CS.asgC ?_ ?_ ?_ | with_reducible refine' CS.asgAt ?_ ?_ | with_reducible refine' CS.asgT ?_ ?_ ?_ | with_reducible refine' CS.asg ?_ ?_ ?_ | with_reducible refine' CS.expr ?_ ?_ | with_reducible refine' CS.ret ?_ | with_reducible refine' CS.ite ?_ ?_ ?_ | with_reducible refine' CS.whil ?_ ?_ | with_reducible refine' CS.range ?_ ?_ ?_ ?_ ?_ | with_reducible refine' CS.forT ?_ ?_ ?_ ?_ | with_reducible refine' CS.forN ?_ ?_ ?_ | with_reducible refine' CS.raise ?_ | with_reducible refine' CS.tryE ?_ ?_
      | with_reducible refine' CE.str ?_ | with_reducible refine' CE.const ?_ | with_reducible refine' CE.andE ?_ | with_reducible refine' CE.orE ?_ | with_reducible refine' CE.notE ?_ | with_reducible exact CE.neg | with_reducible refine' CE.ite ?_ ?_ ?_ | with_reducible refine' CE.bin ?_ ?_ ?_ | with_reducible refine' CE.cmp ?_ ?_ ?_ | with_reducible refine' CE.cmp2 ?_ ?_ ?_ ?_ ?_
      | with_reducible refine' CE.meth ?_ ?_ ?_ ?_ | with_reducible refine' CE.call ?_ ?_ | with_reducible refine' CE.atA ?_ ?_ | with_reducible refine' CE.data ?_ ?_ | with_reducible refine' CE.slice ?_ ?_ ?_ | with_reducible refine' CE.sub ?_ ?_ | with_reducible refine' CE.tup ?_ | with_reducible refine' CE.list ?_ | with_reducible refine' CE.comp ?_ ?_ ?_ | with_reducible refine' CE.compT ?_ ?_ ?_ ?_
      | first
        | ((with_reducible show CE _ _ _ (.Name _ _) _); first
            | (refine' CE.var ?va ?vb; (case va => kernel_rfl); (case vb => exact rfl))
            | ((with_reducible refine' CE.globR ?va ?vb ?vc); (case va => kernel_rfl); (case vb => kernel_rfl); (case vc => decreasing_trivial_pre_omega))
            | ((with_reducible refine' CE.globB ?va ?vb ?vc); (case va => kernel_rfl); (case vb => kernel_rfl); (case vc => decreasing_trivial_pre_omega))
            | ((with_reducible refine' CE.globT ?va ?vb ?vc); (case va => kernel_rfl); (case vb => kernel_rfl); (case vc => decreasing_trivial_pre_omega))
            | ((with_reducible refine' CE.globI ?va ?vb ?vc); (case va => kernel_rfl); (case vb => kernel_rfl); (case vc => decreasing_trivial_pre_omega))
            | ((with_reducible refine' CE.globY ?va ?vb ?vc); (case va => kernel_rfl); (case vb => kernel_rfl); (case vc => decreasing_trivial_pre_omega)))
        | ((with_reducible show locIx _ _ _ = _); exact rfl)
        | ((with_reducible show globV _ _ = _); decreasing_trivial_pre_omega)
        | ((with_reducible show cMeth _ _ = _); with_reducible (first | exact w_space _ | exact w_need _ | exact w_skip _ | exact w_fault _ | exact w_peek _ | exact w_astring _ | exact w_string_or _ | exact w_string _ | exact w_quoted _ | exact w_literal _ | exact w_run _ | exact w_split _ | exact w_lower _ | exact w_upper _ | exact w_pop _ | exact w_index _ | exact w_append _ | exact w_join _))
        | ((with_reducible show Array.toList _ = _); first | (with_reducible (first | exact cp_0 | exact cp_1 | exact cp_2 | exact cp_3 | exact cp_4 | exact cp_5 | exact cp_6 | exact cp_7 | exact cp_8 | exact cp_9 | exact cp_10 | exact cp_11 | exact cp_12 | exact cp_13 | exact cp_14)) | exact rfl)
        | ((with_reducible show cConst _ = _); exact rfl)
        | ((with_reducible show cBin _ = _); exact rfl)
        | ((with_reducible show cCmp _ = _); exact rfl)
        | kernel_rfl
        | decide)
    all_goals decide

noncomputable def F200 : {f : Fn // ∀ P, CF (KP P) 200 f} := by
  refine ⟨⟨?np, ?nl, ?b⟩, fun P => ⟨?oc, ?od, ?fd, ?sl, ?bd, ?h1, ?h2, ?h3, ?h4, ?h5, ?h6⟩⟩
  case h1 => with_unfolding_all rfl
  case h2 => exact rfl
  case h3 => kernel_rfl
  case h5 => exact rfl
  case h6 => exact rfl
  case h4 =>
    dsimp only [List.map_cons, List.map_nil]
    repeat' (first
      | with_reducible exact All2.nil | with_reducible exact Opt2.none | with_reducible exact CT.nil | with_reducible exact CH.nil | with_reducible exact CN.none
      | with_reducible refine' All2.cons ?_ ?_ | with_reducible refine' Opt2.some ?_ | with_reducible refine' CT.cons ?_ ?_ | with_reducible refine' CH.cons ?_ ?_ ?_ ?_ ?_ ?_ | with_reducible refine' CN.some ?_
      | with_reducible refine' CU.atF ?_ ?_ ?_ | with_reducible refine' CU.none ?_ | with_reducible refine' CU.raise ?_ ?_ ?_ ?_ ?_
      | with_reducible refine' CS.asgC ?_ ?_ ?_ | with_reducible refine' CS.asgAt ?_ ?_ | with_reducible refine' CS.asgT ?_ ?_ ?_ | with_reducible refine' CS.asg ?_ ?_ ?_ | with_reducible refine' CS.expr ?_ ?_ | with_reducible refine' CS.ret ?_ | with_reducible refine' CS.ite ?_ ?_ ?_ | with_reducible refine' CS.whil ?_ ?_ | with_reducible refine' CS.range ?_ ?_ ?_ ?_ ?_ | with_reducible refine' CS.forT ?_ ?_ ?_ ?_ | with_reducible refine' CS.forN ?_ ?_ ?_ | with_reducible refine' CS.raise ?_ | with_reducible refine' CS.tryE ?_ ?_
      | with_reducible refine' CE.str ?_ | with_reducible refine' CE.const ?_ | with_reducible refine' CE.andE ?_ | with_reducible refine' CE.orE ?_ | with_reducible refine' CE.notE ?_ | with_reducible exact CE.neg | with_reducible refine' CE.ite ?_ ?_ ?_ | with_reducible refine' CE.bin ?_ ?_ ?_ | with_reducible refine' CE.cmp ?_ ?_ ?_ | with_reducible refine' CE.cmp2 ?_ ?_ ?_ ?_ ?_
      | with_reducible refine' CE.meth ?_ ?_ ?_ ?_ | with_reducible refine' CE.call ?_ ?_ | with_reducible refine' CE.atA ?_ ?_ | with_reducible refine' CE.data ?_ ?_ | with_reducible refine' CE.slice ?_ ?_ ?_ | with_reducible refine' CE.sub ?_ ?_ | with_reducible refine' CE.tup ?_ | with_reducible refine' CE.list ?_ | with_reducible refine' CE.comp ?_ ?_ ?_ | with_reducible refine' CE.compT ?_ ?_ ?_ ?_
      | first
        | ((with_reducible show CE _ _ _ (.Name _ _) _); first
            | (refine' CE.var ?va ?vb; (case va => kernel_rfl); (case vb => exact rfl))
            | ((with_reducible refine' CE.globR ?va ?vb ?vc); (case va => kernel_rfl); (case vb => kernel_rfl); (case vc => decreasing_trivial_pre_omega))
            | ((with_reducible refine' CE.globB ?va ?vb ?vc); (case va => kernel_rfl); (case vb => kernel_rfl); (case vc => decreasing_trivial_pre_omega))
            | ((with_reducible refine' CE.globT ?va ?vb ?vc); (case va => kernel_rfl); (case vb => kernel_rfl); (case vc => decreasing_trivial_pre_omega))
            | ((with_reducible refine' CE.globI ?va ?vb ?vc); (case va => kernel_rfl); (case vb => kernel_rfl); (case vc => decreasing_trivial_pre_omega))
            | ((with_reducible refine' CE.globY ?va ?vb ?vc); (case va => kernel_rfl); (case vb => kernel_rfl); (case vc => decreasing_trivial_pre_omega)))
        | ((with_reducible show locIx _ _ _ = _); exact rfl)
        | ((with_reducible show globV _ _ = _); decreasing_trivial_pre_omega)
        | ((with_reducible show cMeth _ _ = _); with_reducible (first | exact w_space _ | exact w_need _ | exact w_skip _ | exact w_fault _ | exact w_peek _ | exact w_astring _ | exact w_string_or _ | exact w_string _ | exact w_quoted _ | exact w_literal _ | exact w_run _ | exact w_split _ | exact w_lower _ | exact w_upper _ | exact w_pop _ | exact w_index _ | exact w_append _ | exact w_join _))
        | ((with_reducible show Array.toList _ = _); first | (with_reducible (first | exact cp_0 | exact cp_1 | exact cp_2 | exact cp_3 | exact cp_4 | exact cp_5 | exact cp_6 | exact cp_7 | exact cp_8 | exact cp_9 | exact cp_10 | exact cp_11 | exact cp_12 | exact cp_13 | exact cp_14)) | exact rfl)
        | ((with_reducible show cConst _ = _); exact rfl)
        | ((with_reducible show cBin _ = _); exact rfl)
        | ((with_reducible show cCmp _ = _); exact rfl)
        | kernel_rfl
        | decide)
    all_goals decide

noncomputable def F207 : {f : Fn // ∀ P, CF (KP P) 207 f} := by
  refine ⟨⟨?np, ?nl, ?b⟩, fun P => ⟨?oc, ?od, ?fd, ?sl, ?bd, ?h1, ?h2, ?h3, ?h4, ?h5, ?h6⟩⟩
  case h1 => with_unfolding_all rfl
  case h2 => exact rfl
  case h3 => kernel_rfl
  case h5 => exact rfl
  case h6 => exact rfl
  case h4 =>
    dsimp only [List.map_cons, List.map_nil]
    repeat' (first
      | with_reducible exact All2.nil | with_reducible exact Opt2.none | with_reducible exact CT.nil | with_reducible exact CH.nil | with_reducible exact CN.none
      | with_reducible refine' All2.cons ?_ ?_ | with_reducible refine' Opt2.some ?_ | with_reducible refine' CT.cons ?_ ?_ | with_reducible refine' CH.cons ?_ ?_ ?_ ?_ ?_ ?_ | with_reducible refine' CN.some ?_
      | with_reducible refine' CU.atF ?_ ?_ ?_ | with_reducible refine' CU.none ?_ | with_reducible refine' CU.raise ?_ ?_ ?_ ?_ ?_
      | with_reducible refine' CS.asgC ?_ ?_ ?_ | with_reducible refine' CS.asgAt ?_ ?_ | with_reducible refine' CS.asgT ?_ ?_ ?_ | with_reducible refine' CS.asg ?_ ?_ ?_ | with_reducible refine' CS.expr ?_ ?_ | with_reducible refine' CS.ret ?_ | with_reducible refine' CS.ite ?_ ?_ ?_ | with_reducible refine' CS.whil ?_ ?_ | with_reducible refine' CS.range ?_ ?_ ?_ ?_ ?_ | with_reducible refine' CS.forT ?_ ?_ ?_ ?_ | with_reducible refine' CS.forN ?_ ?_ ?_ | with_reducible refine' CS.raise ?_ | with_reducible refine' CS.tryE ?_ ?_
      | with_reducible refine' CE.str ?_ | with_reducible refine' CE.const ?_ | with_reducible refine' CE.andE ?_ | with_reducible refine' CE.orE ?_ | with_reducible refine' CE.notE ?_ | with_reducible exact CE.neg | with_reducible refine' CE.ite ?_ ?_ ?_ | with_reducible refine' CE.bin ?_ ?_ ?_ | with_reducible refine' CE.cmp ?_ ?_ ?_ | with_reducible refine' CE.cmp2 ?_ ?_ ?_ ?_ ?_
      | with_reducible refine' CE.meth ?_ ?_ ?_ ?_ | with_reducible refine' CE.call ?_ ?_ | with_reducible refine' CE.atA ?_ ?_ | with_reducible refine' CE.data ?_ ?_ | with_reducible refine' CE.slice ?_ ?_ ?_ | with_reducible refine' CE.sub ?_ ?_ | with_reducible refine' CE.tup ?_ | with_reducible refine' CE.list ?_ | with_reducible refine' CE.comp ?_ ?_ ?_ | with_reducible refine' CE.compT ?_ ?_ ?_ ?_
      | first
        | ((with_reducible show CE _ _ _ (.Name _ _) _); first
            | (refine' CE.var ?va ?vb; (case va => kernel_rfl); (case vb => exact rfl))
            | ((with_reducible refine' CE.globR ?va ?vb ?vc); (case va => kernel_rfl); (case vb => kernel_rfl); (case vc => decreasing_trivial_pre_omega))
            | ((with_reducible refine' CE.globB ?va ?vb ?vc); (case va => kernel_rfl); (case vb => kernel_rfl); (case vc => decreasing_trivial_pre_omega))
            | ((with_reducible refine' CE.globT ?va ?vb ?vc); (case va => kernel_rfl); (case vb => kernel_rfl); (case vc => decreasing_trivial_pre_omega))
            | ((with_reducible refine' CE.globI ?va ?vb ?vc); (case va => kernel_rfl); (case vb => kernel_rfl); (case vc => decreasing_trivial_pre_omega))
            | ((with_reducible refine' CE.globY ?va ?vb ?vc); (case va => kernel_rfl); (case vb => kernel_rfl); (case vc => decreasing_trivial_pre_omega)))
        | ((with_reducible show locIx _ _ _ = _); exact rfl)
        | ((with_reducible show globV _ _ = _); decreasing_trivial_pre_omega)
        | ((with_reducible show cMeth _ _ = _); with_reducible (first | exact w_space _ | exact w_need _ | exact w_skip _ | exact w_fault _ | exact w_peek _ | exact w_astring _ | exact w_string_or _ | exact w_string _ | exact w_quoted _ | exact w_literal _ | exact w_run _ | exact w_split _ | exact w_lower _ | exact w_upper _ | exact w_pop _ | exact w_index _ | exact w_append _ | exact w_join _))
        | ((with_reducible show Array.toList _ = _); first | (with_reducible (first | exact cp_0 | exact cp_1 | exact cp_2 | exact cp_3 | exact cp_4 | exact cp_5 | exact cp_6 | exact cp_7 | exact cp_8 | exact cp_9 | exact cp_10 | exact cp_11 | exact cp_12 | exact cp_13 | exact cp_14)) | exact rfl)
        | ((with_reducible show cConst _ = _); exact rfl)
        | ((with_reducible show cBin _ = _); exact rfl)
        | ((with_reducible show cCmp _ = _); exact rfl)
        | kernel_rfl
        | decide)
    all_goals decide

noncomputable def F214 : {f : Fn // ∀ P, CF (KP P) 214 f} := by
  refine ⟨⟨?np, ?nl, ?b⟩, fun P => ⟨?oc, ?od, ?fd, ?sl, ?bd, ?h1, ?h2, ?h3, ?h4, ?h5, ?h6⟩⟩
  case h1 => with_unfolding_all rfl
  case h2 => exact rfl
  case h3 => kernel_rfl
  case h5 => exact rfl
  case h6 => exact rfl
  case h4 =>
    dsimp only [List.map_cons, List.map_nil]
    repeat' (first
      | with_reducible exact All2.nil | with_reducible exact Opt2.none | with_reducible exact CT.nil | with_reducible exact CH.nil | with_reducible exact CN.none
      | with_reducible refine' All2.cons ?_ ?_ | with_reducible refine' Opt2.some ?_ | with_reducible refine' CT.cons ?_ ?_ | with_reducible refine' CH.cons ?_ ?_ ?_ ?_ ?_ ?_ | with_reducible refine' CN.some ?_
      | with_reducible refine' CU.atF ?_ ?_ ?_ | with_reducible refine' CU.none ?_ | with_reducible refine' CU.raise ?_ ?_ ?_ ?_ ?_
      | with_reducible refine' CS.asgC ?_ ?_ ?_ | with_reducible refine' CS.asgAt ?_ ?_ | with_reducible refine' CS.asgT ?_ ?_ ?_ | with_reducible refine' CS.asg ?_ ?_ ?_ | with_reducible refine' CS.expr ?_ ?_ | with_reducible refine' CS.ret ?_ | with_reducible refine' CS.ite ?_ ?_ ?_ | with_reducible refine' CS.whil ?_ ?_ | with_reducible refine' CS.range ?_ ?_ ?_ ?_ ?_ | with_reducible refine' CS.forT ?_ ?_ ?_ ?_ | with_reducible refine' CS.forN ?_ ?_ ?_ | with_reducible refine' CS.raise ?_ | with_reducible refine' CS.tryE ?_ ?_
      | with_reducible refine' CE.str ?_ | with_reducible refine' CE.const ?_ | with_reducible refine' CE.andE ?_ | with_reducible refine' CE.orE ?_ | with_reducible refine' CE.notE ?_ | with_reducible exact CE.neg | with_reducible refine' CE.ite ?_ ?_ ?_ | with_reducible refine' CE.bin ?_ ?_ ?_ | with_reducible refine' CE.cmp ?_ ?_ ?_ | with_reducible refine' CE.cmp2 ?_ ?_ ?_ ?_ ?_
      | with_reducible refine' CE.meth ?_ ?_ ?_ ?_ | with_reducible refine' CE.call ?_ ?_ | with_reducible refine' CE.atA ?_ ?_ | with_reducible refine' CE.data ?_ ?_ | with_reducible refine' CE.slice ?_ ?_ ?_ | with_reducible refine' CE.sub ?_ ?_ | with_reducible refine' CE.tup ?_ | with_reducible refine' CE.list ?_ | with_reducible refine' CE.comp ?_ ?_ ?_ | with_reducible refine' CE.compT ?_ ?_ ?_ ?_
      | first
        | ((with_reducible show CE _ _ _ (.Name _ _) _); first
            | (refine' CE.var ?va ?vb; (case va => kernel_rfl); (case vb => exact rfl))
            | ((with_reducible refine' CE.globR ?va ?vb ?vc); (case va => kernel_rfl); (case vb => kernel_rfl); (case vc => decreasing_trivial_pre_omega))
            | ((with_reducible refine' CE.globB ?va ?vb ?vc); (case va => kernel_rfl); (case vb => kernel_rfl); (case vc => decreasing_trivial_pre_omega))
            | ((with_reducible refine' CE.globT ?va ?vb ?vc); (case va => kernel_rfl); (case vb => kernel_rfl); (case vc => decreasing_trivial_pre_omega))
            | ((with_reducible refine' CE.globI ?va ?vb ?vc); (case va => kernel_rfl); (case vb => kernel_rfl); (case vc => decreasing_trivial_pre_omega))
            | ((with_reducible refine' CE.globY ?va ?vb ?vc); (case va => kernel_rfl); (case vb => kernel_rfl); (case vc => decreasing_trivial_pre_omega)))
        | ((with_reducible show locIx _ _ _ = _); exact rfl)
        | ((with_reducible show globV _ _ = _); decreasing_trivial_pre_omega)
        | ((with_reducible show cMeth _ _ = _); with_reducible (first | exact w_space _ | exact w_need _ | exact w_skip _ | exact w_fault _ | exact w_peek _ | exact w_astring _ | exact w_string_or _ | exact w_string _ | exact w_quoted _ | exact w_literal _ | exact w_run _ | exact w_split _ | exact w_lower _ | exact w_upper _ | exact w_pop _ | exact w_index _ | exact w_append _ | exact w_join _))
        | ((with_reducible show Array.toList _ = _); first | (with_reducible (first | exact cp_0 | exact cp_1 | exact cp_2 | exact cp_3 | exact cp_4 | exact cp_5 | exact cp_6 | exact cp_7 | exact cp_8 | exact cp_9 | exact cp_10 | exact cp_11 | exact cp_12 | exact cp_13 | exact cp_14)) | exact rfl)
        | ((with_reducible show cConst _ = _); exact rfl)
        | ((with_reducible show cBin _ = _); exact rfl)
        | ((with_reducible show cCmp _ = _); exact rfl)
        | kernel_rfl
        | decide)
    all_goals decide

noncomputable def F228 : {f : Fn // ∀ P, CF (KP P) 228 f} := by
  refine ⟨⟨?np, ?nl, ?b⟩, fun P => ⟨?oc, ?od, ?fd, ?sl, ?bd, ?h1, ?h2, ?h3, ?h4, ?h5, ?h6⟩⟩
  case h1 => with_unfolding_all rfl
  case h2 => exact rfl
  case h3 => kernel_rfl
  case h5 => exact rfl
  case h6 => exact rfl
  case h4 =>
    dsimp only [List.map_cons, List.map_nil]
    repeat' (first
      | with_reducible exact All2.nil | with_reducible exact Opt2.none | with_reducible exact CT.nil | with_reducible exact CH.nil | with_reducible exact CN.none
      | with_reducible refine' All2.cons ?_ ?_ | with_reducible refine' Opt2.some ?_ | with_reducible refine' CT.cons ?_ ?_ | with_reducible refine' CH.cons ?_ ?_ ?_ ?_ ?_ ?_ | with_reducible refine' CN.some ?_
      | with_reducible refine' CU.atF ?_ ?_ ?_ | with_reducible refine' CU.none ?_ | with_reducible refine' CU.raise ?_ ?_ ?_ ?_ ?_
      | with_reducible refine' CS.asgC ?_ ?_ ?_ | with_reducible refine' CS.asgAt ?_ ?_ | with_reducible refine' CS.asgT ?_ ?_ ?_ | with_reducible refine' CS.asg ?_ ?_ ?_ | with_reducible refine' CS.expr ?_ ?_ | with_reducible refine' CS.ret ?_ | with_reducible refine' CS.ite ?_ ?_ ?_ | with_reducible refine' CS.whil ?_ ?_ | with_reducible refine' CS.range ?_ ?_ ?_ ?_ ?_ | with_reducible refine' CS.forT ?_ ?_ ?_ ?_ | with_reducible refine' CS.forN ?_ ?_ ?_ | with_reducible refine' CS.raise ?_ | with_reducible refine' CS.tryE ?_ ?_
      | with_reducible refine' CE.str ?_ | with_reducible refine' CE.const ?_ | with_reducible refine' CE.andE ?_ | with_reducible refine' CE.orE ?_ | with_reducible refine' CE.notE ?_ | with_reducible exact CE.neg | with_reducible refine' CE.ite ?_ ?_ ?_ | with_reducible refine' CE.bin ?_ ?_ ?_ | with_reducible refine' CE.cmp ?_ ?_ ?_ | with_reducible refine' CE.cmp2 ?_ ?_ ?_ ?_ ?_
      | with_reducible refine' CE.meth ?_ ?_ ?_ ?_ | with_reducible refine' CE.call ?_ ?_ | with_reducible refine' CE.atA ?_ ?_ | with_reducible refine' CE.data ?_ ?_ | with_reducible refine' CE.slice ?_ ?_ ?_ | with_reducible refine' CE.sub ?_ ?_ | with_reducible refine' CE.tup ?_ | with_reducible refine' CE.list ?_ | with_reducible refine' CE.comp ?_ ?_ ?_ | with_reducible refine' CE.compT ?_ ?_ ?_ ?_
      | first
        | ((with_reducible show CE _ _ _ (.Name _ _) _); first
            | (refine' CE.var ?va ?vb; (case va => kernel_rfl); (case vb => exact rfl))
            | ((with_reducible refine' CE.globR ?va ?vb ?vc); (case va => kernel_rfl); (case vb => kernel_rfl); (case vc => decreasing_trivial_pre_omega))
            | ((with_reducible refine' CE.globB ?va ?vb ?vc); (case va => kernel_rfl); (case vb => kernel_rfl); (case vc => decreasing_trivial_pre_omega))
            | ((with_reducible refine' CE.globT ?va ?vb ?vc); (case va => kernel_rfl); (case vb => kernel_rfl); (case vc => decreasing_trivial_pre_omega))
            | ((with_reducible refine' CE.globI ?va ?vb ?vc); (case va => kernel_rfl); (case vb => kernel_rfl); (case vc => decreasing_trivial_pre_omega))
            | ((with_reducible refine' CE.globY ?va ?vb ?vc); (case va => kernel_rfl); (case vb => kernel_rfl); (case vc => decreasing_trivial_pre_omega)))
        | ((with_reducible show locIx _ _ _ = _); exact rfl)
        | ((with_reducible show globV _ _ = _); decreasing_trivial_pre_omega)
        | ((with_reducible show cMeth _ _ = _); with_reducible (first | exact w_space _ | exact w_need _ | exact w_skip _ | exact w_fault _ | exact w_peek _ | exact w_astring _ | exact w_string_or _ | exact w_string _ | exact w_quoted _ | exact w_literal _ | exact w_run _ | exact w_split _ | exact w_lower _ | exact w_upper _ | exact w_pop _ | exact w_index _ | exact w_append _ | exact w_join _))
        | ((with_reducible show Array.toList _ = _); first | (with_reducible (first | exact cp_0 | exact cp_1 | exact cp_2 | exact cp_3 | exact cp_4 | exact cp_5 | exact cp_6 | exact cp_7 | exact cp_8 | exact cp_9 | exact cp_10 | exact cp_11 | exact cp_12 | exact cp_13 | exact cp_14)) | exact rfl)
        | ((with_reducible show cConst _ = _); exact rfl)
        | ((with_reducible show cBin _ = _); exact rfl)
        | ((with_reducible show cCmp _ = _); exact rfl)
        | kernel_rfl
        | decide)
    all_goals decide

noncomputable def F235 : {f : Fn // ∀ P, CF (KP P) 235 f} := by
  refine ⟨⟨?np, ?nl, ?b⟩, fun P => ⟨?oc, ?od, ?fd, ?sl, ?bd, ?h1, ?h2, ?h3, ?h4, ?h5, ?h6⟩⟩
  case h1 => with_unfolding_all rfl
  case h2 => exact rfl
  case h3 => kernel_rfl
  case h5 => exact rfl
  case h6 => exact rfl
  case h4 =>
    dsimp only [List.map_cons, List.map_nil]
    repeat' (first
      | with_reducible exact All2.nil | with_reducible exact Opt2.none | with_reducible exact CT.nil | with_reducible exact CH.nil | with_reducible exact CN.none
      | with_reducible refine' All2.cons ?_ ?_ | with_reducible refine' Opt2.some ?_ | with_reducible refine' CT.cons ?_ ?_ | with_reducible refine' CH.cons ?_ ?_ ?_ ?_ ?_ ?_ | with_reducible refine' CN.some ?_
      | with_reducible refine' CU.atF ?_ ?_ ?_ | with_reducible refine' CU.none ?_ | with_reducible refine' CU.raise ?_ ?_ ?_ ?_ ?_
      | with_reducible refine' CS.asgC ?_ ?_ ?_ | with_reducible refine' CS.asgAt ?_ ?_ | with_reducible refine' CS.asgT ?_ ?_ ?_ | with_reducible refine' CS.asg ?_ ?_ ?_ | with_reducible refine' CS.expr ?_ ?_ | with_reducible refine' CS.ret ?_ | with_reducible refine' CS.ite ?_ ?_ ?_ | with_reducible refine' CS.whil ?_ ?_ | with_reducible refine' CS.range ?_ ?_ ?_ ?_ ?_ | with_reducible refine' CS.forT ?_ ?_ ?_ ?_ | with_reducible refine' CS.forN ?_ ?_ ?_ | with_reducible refine' CS.raise ?_ | with_reducible refine' CS.tryE ?_ ?_
      | with_reducible refine' CE.str ?_ | with_reducible refine' CE.const ?_ | with_reducible refine' CE.andE ?_ | with_reducible refine' CE.orE ?_ | with_reducible refine' CE.notE ?_ | with_reducible exact CE.neg | with_reducible refine' CE.ite ?_ ?_ ?_ | with_reducible refine' CE.bin ?_ ?_ ?_ | with_reducible refine' CE.cmp ?_ ?_ ?_ | with_reducible refine' CE.cmp2 ?_ ?_ ?_ ?_ ?_
      | with_reducible refine' CE.meth ?_ ?_ ?_ ?_ | with_reducible refine' CE.call ?_ ?_ | with_reducible refine' CE.atA ?_ ?_ | with_reducible refine' CE.data ?_ ?_ | with_reducible refine' CE.slice ?_ ?_ ?_ | with_reducible refine' CE.sub ?_ ?_ | with_reducible refine' CE.tup ?_ | with_reducible refine' CE.list ?_ | with_reducible refine' CE.comp ?_ ?_ ?_ | with_reducible refine' CE.compT ?_ ?_ ?_ ?_
      | first
        | ((with_reducible show CE _ _ _ (.Name _ _) _); first
            | (refine' CE.var ?va ?vb; (case va => kernel_rfl); (case vb => exact rfl))
            | ((with_reducible refine' CE.globR ?va ?vb ?vc); (case va => kernel_rfl); (case vb => kernel_rfl); (case vc => decreasing_trivial_pre_omega))
            | ((with_reducible refine' CE.globB ?va ?vb ?vc); (case va => kernel_rfl); (case vb => kernel_rfl); (case vc => decreasing_trivial_pre_omega))
            | ((with_reducible refine' CE.globT ?va ?vb ?vc); (case va => kernel_rfl); (case vb => kernel_rfl); (case vc => decreasing_trivial_pre_omega))
            | ((with_reducible refine' CE.globI ?va ?vb ?vc); (case va => kernel_rfl); (case vb => kernel_rfl); (case vc => decreasing_trivial_pre_omega))
            | ((with_reducible refine' CE.globY ?va ?vb ?vc); (case va => kernel_rfl); (case vb => kernel_rfl); (case vc => decreasing_trivial_pre_omega)))
        | ((with_reducible show locIx _ _ _ = _); exact rfl)
        | ((with_reducible show globV _ _ = _); decreasing_trivial_pre_omega)
        | ((with_reducible show cMeth _ _ = _); with_reducible (first | exact w_space _ | exact w_need _ | exact w_skip _ | exact w_fault _ | exact w_peek _ | exact w_astring _ | exact w_string_or _ | exact w_string _ | exact w_quoted _ | exact w_literal _ | exact w_run _ | exact w_split _ | exact w_lower _ | exact w_upper _ | exact w_pop _ | exact w_index _ | exact w_append _ | exact w_join _))
        | ((with_reducible show Array.toList _ = _); first | (with_reducible (first | exact cp_0 | exact cp_1 | exact cp_2 | exact cp_3 | exact cp_4 | exact cp_5 | exact cp_6 | exact cp_7 | exact cp_8 | exact cp_9 | exact cp_10 | exact cp_11 | exact cp_12 | exact cp_13 | exact cp_14)) | exact rfl)
        | ((with_reducible show cConst _ = _); exact rfl)
        | ((with_reducible show cBin _ = _); exact rfl)
        | ((with_reducible show cCmp _ = _); exact rfl)
        | kernel_rfl
        | decide)
    all_goals decide

noncomputable def F454 : {f : Fn // ∀ P, CF (KP P) 454 f} := by
  refine ⟨⟨?np, ?nl, ?b⟩, fun P => ⟨?oc, ?od, ?fd, ?sl, ?bd, ?h1, ?h2, ?h3, ?h4, ?h5, ?h6⟩⟩
  case h1 => with_unfolding_all rfl
  case h2 => exact rfl
  case h3 => kernel_rfl
  case h5 => exact rfl
  case h6 => exact rfl
  case h4 =>
    dsimp only [List.map_cons, List.map_nil]
    repeat' (first
      | with_reducible exact All2.nil | with_reducible exact Opt2.none | with_reducible exact CT.nil | with_reducible exact CH.nil | with_reducible exact CN.none
      | with_reducible refine' All2.cons ?_ ?_ | with_reducible refine' Opt2.some ?_ | with_reducible refine' CT.cons ?_ ?_ | with_reducible refine' CH.cons ?_ ?_ ?_ ?_ ?_ ?_ | with_reducible refine' CN.some ?_
      | with_reducible refine' CU.atF ?_ ?_ ?_ | with_reducible refine' CU.none ?_ | with_reducible refine' CU.raise ?_ ?_ ?_ ?_ ?_
      | with_reducible refine' CS.asgC ?_ ?_ ?_ | with_reducible refine' CS.asgAt ?_ ?_ | with_reducible refine' CS.asgT ?_ ?_ ?_ | with_reducible refine' CS.asg ?_ ?_ ?_ | with_reducible refine' CS.expr ?_ ?_ | with_reducible refine' CS.ret ?_ | with_reducible refine' CS.ite ?_ ?_ ?_ | with_reducible refine' CS.whil ?_ ?_ | with_reducible refine' CS.range ?_ ?_ ?_ ?_ ?_ | with_reducible refine' CS.forT ?_ ?_ ?_ ?_ | with_reducible refine' CS.forN ?_ ?_ ?_ | with_reducible refine' CS.raise ?_ | with_reducible refine' CS.tryE ?_ ?_
      | with_reducible refine' CE.str ?_ | with_reducible refine' CE.const ?_ | with_reducible refine' CE.andE ?_ | with_reducible refine' CE.orE ?_ | with_reducible refine' CE.notE ?_ | with_reducible exact CE.neg | with_reducible refine' CE.ite ?_ ?_ ?_ | with_reducible refine' CE.bin ?_ ?_ ?_ | with_reducible refine' CE.cmp ?_ ?_ ?_ | with_reducible refine' CE.cmp2 ?_ ?_ ?_ ?_ ?_
      | with_reducible refine' CE.meth ?_ ?_ ?_ ?_ | with_reducible refine' CE.call ?_ ?_ | with_reducible refine' CE.atA ?_ ?_ | with_reducible refine' CE.data ?_ ?_ | with_reducible refine' CE.slice ?_ ?_ ?_ | with_reducible refine' CE.sub ?_ ?_ | with_reducible refine' CE.tup ?_ | with_reducible refine' CE.list ?_ | with_reducible refine' CE.comp ?_ ?_ ?_ | with_reducible refine' CE.compT ?_ ?_ ?_ ?_
      | first
        | ((with_reducible show CE _ _ _ (.Name _ _) _); first
            | (refine' CE.var ?va ?vb; (case va => kernel_rfl); (case vb => exact rfl))
            | ((with_reducible refine' CE.globR ?va ?vb ?vc); (case va => kernel_rfl); (case vb => kernel_rfl); (case vc => decreasing_trivial_pre_omega))
            | ((with_reducible refine' CE.globB ?va ?vb ?vc); (case va => kernel_rfl); (case vb => kernel_rfl); (case vc => decreasing_trivial_pre_omega))
            | ((with_reducible refine' CE.globT ?va ?vb ?vc); (case va => kernel_rfl); (case vb => kernel_rfl); (case vc => decreasing_trivial_pre_omega))
            | ((with_reducible refine' CE.globI ?va ?vb ?vc); (case va => kernel_rfl); (case vb => kernel_rfl); (case vc => decreasing_trivial_pre_omega))
            | ((with_reducible refine' CE.globY ?va ?vb ?vc); (case va => kernel_rfl); (case vb => kernel_rfl); (case vc => decreasing_trivial_pre_omega)))
        | ((with_reducible show locIx _ _ _ = _); exact rfl)
        | ((with_reducible show globV _ _ = _); decreasing_trivial_pre_omega)
        | ((with_reducible show cMeth _ _ = _); with_reducible (first | exact w_space _ | exact w_need _ | exact w_skip _ | exact w_fault _ | exact w_peek _ | exact w_astring _ | exact w_string_or _ | exact w_string _ | exact w_quoted _ | exact w_literal _ | exact w_run _ | exact w_split _ | exact w_lower _ | exact w_upper _ | exact w_pop _ | exact w_index _ | exact w_append _ | exact w_join _))
        | ((with_reducible show Array.toList _ = _); first | (with_reducible (first | exact cp_0 | exact cp_1 | exact cp_2 | exact cp_3 | exact cp_4 | exact cp_5 | exact cp_6 | exact cp_7 | exact cp_8 | exact cp_9 | exact cp_10 | exact cp_11 | exact cp_12 | exact cp_13 | exact cp_14)) | exact rfl)
        | ((with_reducible show cConst _ = _); exact rfl)
        | ((with_reducible show cBin _ = _); exact rfl)
        | ((with_reducible show cCmp _ = _); exact rfl)
        | kernel_rfl
        | decide)
    all_goals decide

noncomputable def F461 : {f : Fn // ∀ P, CF (KP P) 461 f} := by
  refine ⟨⟨?np, ?nl, ?b⟩, fun P => ⟨?oc, ?od, ?fd, ?sl, ?bd, ?h1, ?h2, ?h3, ?h4, ?h5, ?h6⟩⟩
  case h1 => with_unfolding_all rfl
  case h2 => exact rfl
  case h3 => kernel_rfl
  case h5 => exact rfl
  case h6 => exact rfl
  case h4 =>
    dsimp only [List.map_cons, List.map_nil]
    repeat' (first
      | with_reducible exact All2.nil | with_reducible exact Opt2.none | with_reducible exact CT.nil | with_reducible exact CH.nil | with_reducible exact CN.none
      | with_reducible refine' All2.cons ?_ ?_ | with_reducible refine' Opt2.some ?_ | with_reducible refine' CT.cons ?_ ?_ | with_reducible refine' CH.cons ?_ ?_ ?_ ?_ ?_ ?_ | with_reducible refine' CN.some ?_
      | with_reducible refine' CU.atF ?_ ?_ ?_ | with_reducible refine' CU.none ?_ | with_reducible refine' CU.raise ?_ ?_ ?_ ?_ ?_
      | with_reducible refine' CS.asgC ?_ ?_ ?_ | with_reducible refine' CS.asgAt ?_ ?_ | with_reducible refine' CS.asgT ?_ ?_ ?_ | with_reducible refine' CS.asg ?_ ?_ ?_ | with_reducible refine' CS.expr ?_ ?_ | with_reducible refine' CS.ret ?_ | with_reducible refine' CS.ite ?_ ?_ ?_ | with_reducible refine' CS.whil ?_ ?_ | with_reducible refine' CS.range ?_ ?_ ?_ ?_ ?_ | with_reducible refine' CS.forT ?_ ?_ ?_ ?_ | with_reducible refine' CS.forN ?_ ?_ ?_ | with_reducible refine' CS.raise ?_ | with_reducible refine' CS.tryE ?_ ?_
      | with_reducible refine' CE.str ?_ | with_reducible refine' CE.const ?_ | with_reducible refine' CE.andE ?_ | with_reducible refine' CE.orE ?_ | with_reducible refine' CE.notE ?_ | with_reducible exact CE.neg | with_reducible refine' CE.ite ?_ ?_ ?_ | with_reducible refine' CE.bin ?_ ?_ ?_ | with_reducible refine' CE.cmp ?_ ?_ ?_ | with_reducible refine' CE.cmp2 ?_ ?_ ?_ ?_ ?_
      | with_reducible refine' CE.meth ?_ ?_ ?_ ?_ | with_reducible refine' CE.call ?_ ?_ | with_reducible refine' CE.atA ?_ ?_ | with_reducible refine' CE.data ?_ ?_ | with_reducible refine' CE.slice ?_ ?_ ?_ | with_reducible refine' CE.sub ?_ ?_ | with_reducible refine' CE.tup ?_ | with_reducible refine' CE.list ?_ | with_reducible refine' CE.comp ?_ ?_ ?_ | with_reducible refine' CE.compT ?_ ?_ ?_ ?_
      | first
        | ((with_reducible show CE _ _ _ (.Name _ _) _); first
            | (refine' CE.var ?va ?vb; (case va => kernel_rfl); (case vb => exact rfl))
            | ((with_reducible refine' CE.globR ?va ?vb ?vc); (case va => kernel_rfl); (case vb => kernel_rfl); (case vc => decreasing_trivial_pre_omega))
            | ((with_reducible refine' CE.globB ?va ?vb ?vc); (case va => kernel_rfl); (case vb => kernel_rfl); (case vc => decreasing_trivial_pre_omega))
            | ((with_reducible refine' CE.globT ?va ?vb ?vc); (case va => kernel_rfl); (case vb => kernel_rfl); (case vc => decreasing_trivial_pre_omega))
            | ((with_reducible refine' CE.globI ?va ?vb ?vc); (case va => kernel_rfl); (case vb => kernel_rfl); (case vc => decreasing_trivial_pre_omega))
            | ((with_reducible refine' CE.globY ?va ?vb ?vc); (case va => kernel_rfl); (case vb => kernel_rfl); (case vc => decreasing_trivial_pre_omega)))
        | ((with_reducible show locIx _ _ _ = _); exact rfl)
        | ((with_reducible show globV _ _ = _); decreasing_trivial_pre_omega)
        | ((with_reducible show cMeth _ _ = _); with_reducible (first | exact w_space _ | exact w_need _ | exact w_skip _ | exact w_fault _ | exact w_peek _ | exact w_astring _ | exact w_string_or _ | exact w_string _ | exact w_quoted _ | exact w_literal _ | exact w_run _ | exact w_split _ | exact w_lower _ | exact w_upper _ | exact w_pop _ | exact w_index _ | exact w_append _ | exact w_join _))
        | ((with_reducible show Array.toList _ = _); first | (with_reducible (first | exact cp_0 | exact cp_1 | exact cp_2 | exact cp_3 | exact cp_4 | exact cp_5 | exact cp_6 | exact cp_7 | exact cp_8 | exact cp_9 | exact cp_10 | exact cp_11 | exact cp_12 | exact cp_13 | exact cp_14)) | exact rfl)
        | ((with_reducible show cConst _ = _); exact rfl)
        | ((with_reducible show cBin _ = _); exact rfl)
        | ((with_reducible show cCmp _ = _); exact rfl)
        | kernel_rfl
        | decide)
    all_goals decide

noncomputable def F466 : {f : Fn // ∀ P, CF (KP P) 466 f} := by
  refine ⟨⟨?np, ?nl, ?b⟩, fun P => ⟨?oc, ?od, ?fd, ?sl, ?bd, ?h1, ?h2, ?h3, ?h4, ?h5, ?h6⟩⟩
  case h1 => with_unfolding_all rfl
  case h2 => exact rfl
  case h3 => kernel_rfl
  case h5 => exact rfl
  case h6 => exact rfl
  case h4 =>
    dsimp only [List.map_cons, List.map_nil]
    repeat' (first
      | with_reducible exact All2.nil | with_reducible exact Opt2.none | with_reducible exact CT.nil | with_reducible exact CH.nil | with_reducible exact CN.none
      | with_reducible refine' All2.cons ?_ ?_ | with_reducible refine' Opt2.some ?_ | with_reducible refine' CT.cons ?_ ?_ | with_reducible refine' CH.cons ?_ ?_ ?_ ?_ ?_ ?_ | with_reducible refine' CN.some ?_
      | with_reducible refine' CU.atF ?_ ?_ ?_ | with_reducible refine' CU.none ?_ | with_reducible refine' CU.raise ?_ ?_ ?_ ?_ ?_
      | with_reducible refine' CS.asgC ?_ ?_ ?_ | with_reducible refine' CS.asgAt ?_ ?_ | with_reducible refine' CS.asgT ?_ ?_ ?_ | with_reducible refine' CS.asg ?_ ?_ ?_ | with_reducible refine' CS.expr ?_ ?_ | with_reducible refine' CS.ret ?_ | with_reducible refine' CS.ite ?_ ?_ ?_ | with_reducible refine' CS.whil ?_ ?_ | with_reducible refine' CS.range ?_ ?_ ?_ ?_ ?_ | with_reducible refine' CS.forT ?_ ?_ ?_ ?_ | with_reducible refine' CS.forN ?_ ?_ ?_ | with_reducible refine' CS.raise ?_ | with_reducible refine' CS.tryE ?_ ?_
      | with_reducible refine' CE.str ?_ | with_reducible refine' CE.const ?_ | with_reducible refine' CE.andE ?_ | with_reducible refine' CE.orE ?_ | with_reducible refine' CE.notE ?_ | with_reducible exact CE.neg | with_reducible refine' CE.ite ?_ ?_ ?_ | with_reducible refine' CE.bin ?_ ?_ ?_ | with_reducible refine' CE.cmp ?_ ?_ ?_ | with_reducible refine' CE.cmp2 ?_ ?_ ?_ ?_ ?_
      | with_reducible refine' CE.meth ?_ ?_ ?_ ?_ | with_reducible refine' CE.call ?_ ?_ | with_reducible refine' CE.atA ?_ ?_ | with_reducible refine' CE.data ?_ ?_ | with_reducible refine' CE.slice ?_ ?_ ?_ | with_reducible refine' CE.sub ?_ ?_ | with_reducible refine' CE.tup ?_ | with_reducible refine' CE.list ?_ | with_reducible refine' CE.comp ?_ ?_ ?_ | with_reducible refine' CE.compT ?_ ?_ ?_ ?_
      | first
        | ((with_reducible show CE _ _ _ (.Name _ _) _); first
            | (refine' CE.var ?va ?vb; (case va => kernel_rfl); (case vb => exact rfl))
            | ((with_reducible refine' CE.globR ?va ?vb ?vc); (case va => kernel_rfl); (case vb => kernel_rfl); (case vc => decreasing_trivial_pre_omega))
            | ((with_reducible refine' CE.globB ?va ?vb ?vc); (case va => kernel_rfl); (case vb => kernel_rfl); (case vc => decreasing_trivial_pre_omega))
            | ((with_reducible refine' CE.globT ?va ?vb ?vc); (case va => kernel_rfl); (case vb => kernel_rfl); (case vc => decreasing_trivial_pre_omega))
            | ((with_reducible refine' CE.globI ?va ?vb ?vc); (case va => kernel_rfl); (case vb => kernel_rfl); (case vc => decreasing_trivial_pre_omega))
            | ((with_reducible refine' CE.globY ?va ?vb ?vc); (case va => kernel_rfl); (case vb => kernel_rfl); (case vc => decreasing_trivial_pre_omega)))
        | ((with_reducible show locIx _ _ _ = _); exact rfl)
        | ((with_reducible show globV _ _ = _); decreasing_trivial_pre_omega)
        | ((with_reducible show cMeth _ _ = _); with_reducible (first | exact w_space _ | exact w_need _ | exact w_skip _ | exact w_fault _ | exact w_peek _ | exact w_astring _ | exact w_string_or _ | exact w_string _ | exact w_quoted _ | exact w_literal _ | exact w_run _ | exact w_split _ | exact w_lower _ | exact w_upper _ | exact w_pop _ | exact w_index _ | exact w_append _ | exact w_join _))
        | ((with_reducible show Array.toList _ = _); first | (with_reducible (first | exact cp_0 | exact cp_1 | exact cp_2 | exact cp_3 | exact cp_4 | exact cp_5 | exact cp_6 | exact cp_7 | exact cp_8 | exact cp_9 | exact cp_10 | exact cp_11 | exact cp_12 | exact cp_13 | exact cp_14)) | exact rfl)
        | ((with_reducible show cConst _ = _); exact rfl)
        | ((with_reducible show cBin _ = _); exact rfl)
        | ((with_reducible show cCmp _ = _); exact rfl)
        | kernel_rfl
        | decide)
    all_goals decide

noncomputable def F473 : {f : Fn // ∀ P, CF (KP P) 473 f} := by
  refine ⟨⟨?np, ?nl, ?b⟩, fun P => ⟨?oc, ?od, ?fd, ?sl, ?bd, ?h1, ?h2, ?h3, ?h4, ?h5, ?h6⟩⟩
  case h1 => with_unfolding_all rfl
  case h2 => exact rfl
  case h3 => kernel_rfl
  case h5 => exact rfl
  case h6 => exact rfl
  case h4 =>
    dsimp only [List.map_cons, List.map_nil]
    repeat' (first
      | with_reducible exact All2.nil | with_reducible exact Opt2.none | with_reducible exact CT.nil | with_reducible exact CH.nil | with_reducible exact CN.none
      | with_reducible refine' All2.cons ?_ ?_ | with_reducible refine' Opt2.some ?_ | with_reducible refine' CT.cons ?_ ?_ | with_reducible refine' CH.cons ?_ ?_ ?_ ?_ ?_ ?_ | with_reducible refine' CN.some ?_
      | with_reducible refine' CU.atF ?_ ?_ ?_ | with_reducible refine' CU.none ?_ | with_reducible refine' CU.raise ?_ ?_ ?_ ?_ ?_
      | with_reducible refine' CS.asgC ?_ ?_ ?_ | with_reducible refine' CS.asgAt ?_ ?_ | with_reducible refine' CS.asgT ?_ ?_ ?_ | with_reducible refine' CS.asg ?_ ?_ ?_ | with_reducible refine' CS.expr ?_ ?_ | with_reducible refine' CS.ret ?_ | with_reducible refine' CS.ite ?_ ?_ ?_ | with_reducible refine' CS.whil ?_ ?_ | with_reducible refine' CS.range ?_ ?_ ?_ ?_ ?_ | with_reducible refine' CS.forT ?_ ?_ ?_ ?_ | with_reducible refine' CS.forN ?_ ?_ ?_ | with_reducible refine' CS.raise ?_ | with_reducible refine' CS.tryE ?_ ?_
      | with_reducible refine' CE.str ?_ | with_reducible refine' CE.const ?_ | with_reducible refine' CE.andE ?_ | with_reducible refine' CE.orE ?_ | with_reducible refine' CE.notE ?_ | with_reducible exact CE.neg | with_reducible refine' CE.ite ?_ ?_ ?_ | with_reducible refine' CE.bin ?_ ?_ ?_ | with_reducible refine' CE.cmp ?_ ?_ ?_ | with_reducible refine' CE.cmp2 ?_ ?_ ?_ ?_ ?_
      | with_reducible refine' CE.meth ?_ ?_ ?_ ?_ | with_reducible refine' CE.call ?_ ?_ | with_reducible refine' CE.atA ?_ ?_ | with_reducible refine' CE.data ?_ ?_ | with_reducible refine' CE.slice ?_ ?_ ?_ | with_reducible refine' CE.sub ?_ ?_ | with_reducible refine' CE.tup ?_ | with_reducible refine' CE.list ?_ | with_reducible refine' CE.comp ?_ ?_ ?_ | with_reducible refine' CE.compT ?_ ?_ ?_ ?_
      | first
        | ((with_reducible show CE _ _ _ (.Name _ _) _); first
            | (refine' CE.var ?va ?vb; (case va => kernel_rfl); (case vb => exact rfl))
            | ((with_reducible refine' CE.globR ?va ?vb ?vc); (case va => kernel_rfl); (case vb => kernel_rfl); (case vc => decreasing_trivial_pre_omega))
            | ((with_reducible refine' CE.globB ?va ?vb ?vc); (case va => kernel_rfl); (case vb => kernel_rfl); (case vc => decreasing_trivial_pre_omega))
            | ((with_reducible refine' CE.globT ?va ?vb ?vc); (case va => kernel_rfl); (case vb => kernel_rfl); (case vc => decreasing_trivial_pre_omega))
            | ((with_reducible refine' CE.globI ?va ?vb ?vc); (case va => kernel_rfl); (case vb => kernel_rfl); (case vc => decreasing_trivial_pre_omega))
            | ((with_reducible refine' CE.globY ?va ?vb ?vc); (case va => kernel_rfl); (case vb => kernel_rfl); (case vc => decreasing_trivial_pre_omega)))
        | ((with_reducible show locIx _ _ _ = _); exact rfl)
        | ((with_reducible show globV _ _ = _); decreasing_trivial_pre_omega)
        | ((with_reducible show cMeth _ _ = _); with_reducible (first | exact w_space _ | exact w_need _ | exact w_skip _ | exact w_fault _ | exact w_peek _ | exact w_astring _ | exact w_string_or _ | exact w_string _ | exact w_quoted _ | exact w_literal _ | exact w_run _ | exact w_split _ | exact w_lower _ | exact w_upper _ | exact w_pop _ | exact w_index _ | exact w_append _ | exact w_join _))
        | ((with_reducible show Array.toList _ = _); first | (with_reducible (first | exact cp_0 | exact cp_1 | exact cp_2 | exact cp_3 | exact cp_4 | exact cp_5 | exact cp_6 | exact cp_7 | exact cp_8 | exact cp_9 | exact cp_10 | exact cp_11 | exact cp_12 | exact cp_13 | exact cp_14)) | exact rfl)
        | ((with_reducible show cConst _ = _); exact rfl)
        | ((with_reducible show cBin _ = _); exact rfl)
        | ((with_reducible show cCmp _ = _); exact rfl)
        | kernel_rfl
        | decide)
    all_goals decide

noncomputable def F478 : {f : Fn // ∀ P, CF (KP P) 478 f} := by
  refine ⟨⟨?np, ?nl, ?b⟩, fun P => ⟨?oc, ?od, ?fd, ?sl, ?bd, ?h1, ?h2, ?h3, ?h4, ?h5, ?h6⟩⟩
  case h1 => with_unfolding_all rfl
  case h2 => exact rfl
  case h3 => kernel_rfl
  case h5 => exact rfl
  case h6 => exact rfl
  case h4 =>
    dsimp only [List.map_cons, List.map_nil]
    repeat' (first
      | with_reducible exact All2.nil | with_reducible exact Opt2.none | with_reducible exact CT.nil | with_reducible exact CH.nil | with_reducible exact CN.none
      | with_reducible refine' All2.cons ?_ ?_ | with_reducible refine' Opt2.some ?_ | with_reducible refine' CT.cons ?_ ?_ | with_reducible refine' CH.cons ?_ ?_ ?_ ?_ ?_ ?_ | with_reducible refine' CN.some ?_
      | with_reducible refine' CU.atF ?_ ?_ ?_ | with_reducible refine' CU.none ?_ | with_reducible refine' CU.raise ?_ ?_ ?_ ?_ ?_
      | with_reducible refine' CS.asgC ?_ ?_ ?_ | with_reducible refine' CS.asgAt ?_ ?_ | with_reducible refine' CS.asgT ?_ ?_ ?_ | with_reducible refine' CS.asg ?_ ?_ ?_ | with_reducible refine' CS.expr ?_ ?_ | with_reducible refine' CS.ret ?_ | with_reducible refine' CS.ite ?_ ?_ ?_ | with_reducible refine' CS.whil ?_ ?_ | with_reducible refine' CS.range ?_ ?_ ?_ ?_ ?_ | with_reducible refine' CS.forT ?_ ?_ ?_ ?_ | with_reducible refine' CS.forN ?_ ?_ ?_ | with_reducible refine' CS.raise ?_ | with_reducible refine' CS.tryE ?_ ?_
      | with_reducible refine' CE.str ?_ | with_reducible refine' CE.const ?_ | with_reducible refine' CE.andE ?_ | with_reducible refine' CE.orE ?_ | with_reducible refine' CE.notE ?_ | with_reducible exact CE.neg | with_reducible refine' CE.ite ?_ ?_ ?_ | with_reducible refine' CE.bin ?_ ?_ ?_ | with_reducible refine' CE.cmp ?_ ?_ ?_ | with_reducible refine' CE.cmp2 ?_ ?_ ?_ ?_ ?_
      | with_reducible refine' CE.meth ?_ ?_ ?_ ?_ | with_reducible refine' CE.call ?_ ?_ | with_reducible refine' CE.atA ?_ ?_ | with_reducible refine' CE.data ?_ ?_ | with_reducible refine' CE.slice ?_ ?_ ?_ | with_reducible refine' CE.sub ?_ ?_ | with_reducible refine' CE.tup ?_ | with_reducible refine' CE.list ?_ | with_reducible refine' CE.comp ?_ ?_ ?_ | with_reducible refine' CE.compT ?_ ?_ ?_ ?_
      | first
        | ((with_reducible show CE _ _ _ (.Name _ _) _); first
            | (refine' CE.var ?va ?vb; (case va => kernel_rfl); (case vb => exact rfl))
            | ((with_reducible refine' CE.globR ?va ?vb ?vc); (case va => kernel_rfl); (case vb => kernel_rfl); (case vc => decreasing_trivial_pre_omega))
            | ((with_reducible refine' CE.globB ?va ?vb ?vc); (case va => kernel_rfl); (case vb => kernel_rfl); (case vc => decreasing_trivial_pre_omega))
            | ((with_reducible refine' CE.globT ?va ?vb ?vc); (case va => kernel_rfl); (case vb => kernel_rfl); (case vc => decreasing_trivial_pre_omega))
            | ((with_reducible refine' CE.globI ?va ?vb ?vc); (case va => kernel_rfl); (case vb => kernel_rfl); (case vc => decreasing_trivial_pre_omega))
            | ((with_reducible refine' CE.globY ?va ?vb ?vc); (case va => kernel_rfl); (case vb => kernel_rfl); (case vc => decreasing_trivial_pre_omega)))
        | ((with_reducible show locIx _ _ _ = _); exact rfl)
        | ((with_reducible show globV _ _ = _); decreasing_trivial_pre_omega)
        | ((with_reducible show cMeth _ _ = _); with_reducible (first | exact w_space _ | exact w_need _ | exact w_skip _ | exact w_fault _ | exact w_peek _ | exact w_astring _ | exact w_string_or _ | exact w_string _ | exact w_quoted _ | exact w_literal _ | exact w_run _ | exact w_split _ | exact w_lower _ | exact w_upper _ | exact w_pop _ | exact w_index _ | exact w_append _ | exact w_join _))
        | ((with_reducible show Array.toList _ = _); first | (with_reducible (first | exact cp_0 | exact cp_1 | exact cp_2 | exact cp_3 | exact cp_4 | exact cp_5 | exact cp_6 | exact cp_7 | exact cp_8 | exact cp_9 | exact cp_10 | exact cp_11 | exact cp_12 | exact cp_13 | exact cp_14)) | exact rfl)
        | ((with_reducible show cConst _ = _); exact rfl)
        | ((with_reducible show cBin _ = _); exact rfl)
        | ((with_reducible show cCmp _ = _); exact rfl)
        | kernel_rfl
        | decide)
    all_goals decide

noncomputable def F483 : {f : Fn // ∀ P, CF (KP P) 483 f} := by
  refine ⟨⟨?np, ?nl, ?b⟩, fun P => ⟨?oc, ?od, ?fd, ?sl, ?bd, ?h1, ?h2, ?h3, ?h4, ?h5, ?h6⟩⟩
  case h1 => with_unfolding_all rfl
  case h2 => exact rfl
  case h3 => kernel_rfl
  case h5 => exact rfl
  case h6 => exact rfl
  case h4 =>
    dsimp only [List.map_cons, List.map_nil]
    repeat' (first
      | with_reducible exact All2.nil | with_reducible exact Opt2.none | with_reducible exact CT.nil | with_reducible exact CH.nil | with_reducible exact CN.none
      | with_reducible refine' All2.cons ?_ ?_ | with_reducible refine' Opt2.some ?_ | with_reducible refine' CT.cons ?_ ?_ | with_reducible refine' CH.cons ?_ ?_ ?_ ?_ ?_ ?_ | with_reducible refine' CN.some ?_
      | with_reducible refine' CU.atF ?_ ?_ ?_ | with_reducible refine' CU.none ?_ | with_reducible refine' CU.raise ?_ ?_ ?_ ?_ ?_
      | with_reducible refine' CS.asgC ?_ ?_ ?_ | with_reducible refine' CS.asgAt ?_ ?_ | with_reducible refine' CS.asgT ?_ ?_ ?_ | with_reducible refine' CS.asg ?_ ?_ ?_ | with_reducible refine' CS.expr ?_ ?_ | with_reducible refine' CS.ret ?_ | with_reducible refine' CS.ite ?_ ?_ ?_ | with_reducible refine' CS.whil ?_ ?_ | with_reducible refine' CS.range ?_ ?_ ?_ ?_ ?_ | with_reducible refine' CS.forT ?_ ?_ ?_ ?_ | with_reducible refine' CS.forN ?_ ?_ ?_ | with_reducible refine' CS.raise ?_ | with_reducible refine' CS.tryE ?_ ?_
      | with_reducible refine' CE.str ?_ | with_reducible refine' CE.const ?_ | with_reducible refine' CE.andE ?_ | with_reducible refine' CE.orE ?_ | with_reducible refine' CE.notE ?_ | with_reducible exact CE.neg | with_reducible refine' CE.ite ?_ ?_ ?_ | with_reducible refine' CE.bin ?_ ?_ ?_ | with_reducible refine' CE.cmp ?_ ?_ ?_ | with_reducible refine' CE.cmp2 ?_ ?_ ?_ ?_ ?_
      | with_reducible refine' CE.meth ?_ ?_ ?_ ?_ | with_reducible refine' CE.call ?_ ?_ | with_reducible refine' CE.atA ?_ ?_ | with_reducible refine' CE.data ?_ ?_ | with_reducible refine' CE.slice ?_ ?_ ?_ | with_reducible refine' CE.sub ?_ ?_ | with_reducible refine' CE.tup ?_ | with_reducible refine' CE.list ?_ | with_reducible refine' CE.comp ?_ ?_ ?_ | with_reducible refine' CE.compT ?_ ?_ ?_ ?_
      | first
        | ((with_reducible show CE _ _ _ (.Name _ _) _); first
            | (refine' CE.var ?va ?vb; (case va => kernel_rfl); (case vb => exact rfl))
            | ((with_reducible refine' CE.globR ?va ?vb ?vc); (case va => kernel_rfl); (case vb => kernel_rfl); (case vc => decreasing_trivial_pre_omega))
            | ((with_reducible refine' CE.globB ?va ?vb ?vc); (case va => kernel_rfl); (case vb => kernel_rfl); (case vc => decreasing_trivial_pre_omega))
            | ((with_reducible refine' CE.globT ?va ?vb ?vc); (case va => kernel_rfl); (case vb => kernel_rfl); (case vc => decreasing_trivial_pre_omega))
            | ((with_reducible refine' CE.globI ?va ?vb ?vc); (case va => kernel_rfl); (case vb => kernel_rfl); (case vc => decreasing_trivial_pre_omega))
            | ((with_reducible refine' CE.globY ?va ?vb ?vc); (case va => kernel_rfl); (case vb => kernel_rfl); (case vc => decreasing_trivial_pre_omega)))
        | ((with_reducible show locIx _ _ _ = _); exact rfl)
        | ((with_reducible show globV _ _ = _); decreasing_trivial_pre_omega)
        | ((with_reducible show cMeth _ _ = _); with_reducible (first | exact w_space _ | exact w_need _ | exact w_skip _ | exact w_fault _ | exact w_peek _ | exact w_astring _ | exact w_string_or _ | exact w_string _ | exact w_quoted _ | exact w_literal _ | exact w_run _ | exact w_split _ | exact w_lower _ | exact w_upper _ | exact w_pop _ | exact w_index _ | exact w_append _ | exact w_join _))
        | ((with_reducible show Array.toList _ = _); first | (with_reducible (first | exact cp_0 | exact cp_1 | exact cp_2 | exact cp_3 | exact cp_4 | exact cp_5 | exact cp_6 | exact cp_7 | exact cp_8 | exact cp_9 | exact cp_10 | exact cp_11 | exact cp_12 | exact cp_13 | exact cp_14)) | exact rfl)
        | ((with_reducible show cConst _ = _); exact rfl)
        | ((with_reducible show cBin _ = _); exact rfl)
        | ((with_reducible show cCmp _ = _); exact rfl)
        | kernel_rfl
        | decide)
    all_goals decide

noncomputable def F271 : {f : Fn // ∀ P, CF (KP P) 271 f} := by
  refine ⟨⟨?np, ?nl, ?b⟩, fun P => ⟨?oc, ?od, ?fd, ?sl, ?bd, ?h1, ?h2, ?h3, ?h4, ?h5, ?h6⟩⟩
  case h1 => with_unfolding_all rfl
  case h2 => exact rfl
  case h3 => kernel_rfl
  case h5 => exact rfl
  case h6 => exact rfl
  case h4 =>
    dsimp only [List.map_cons, List.map_nil]
    repeat' (first
      | with_reducible exact All2.nil | with_reducible exact Opt2.none | with_reducible exact CT.nil | with_reducible exact CH.nil | with_reducible exact CN.none
      | with_reducible refine' All2.cons ?_ ?_ | with_reducible refine' Opt2.some ?_ | with_reducible refine' CT.cons ?_ ?_ | with_reducible refine' CH.cons ?_ ?_ ?_ ?_ ?_ ?_ | with_reducible refine' CN.some ?_
      | with_reducible refine' CU.atF ?_ ?_ ?_ | with_reducible refine' CU.none ?_ | with_reducible refine' CU.raise ?_ ?_ ?_ ?_ ?_
      | with_reducible refine' CS.asgC ?_ ?_ ?_ | with_reducible refine' CS.asgAt ?_ ?_ | with_reducible refine' CS.asgT ?_ ?_ ?_ | with_reducible refine' CS.asg ?_ ?_ ?_ | with_reducible refine' CS.expr ?_ ?_ | with_reducible refine' CS.ret ?_ | with_reducible refine' CS.ite ?_ ?_ ?_ | with_reducible refine' CS.whil ?_ ?_ | with_reducible refine' CS.range ?_ ?_ ?_ ?_ ?_ | with_reducible refine' CS.forT ?_ ?_ ?_ ?_ | with_reducible refine' CS.forN ?_ ?_ ?_ | with_reducible refine' CS.raise ?_ | with_reducible refine' CS.tryE ?_ ?_
      | with_reducible refine' CE.str ?_ | with_reducible refine' CE.const ?_ | with_reducible refine' CE.andE ?_ | with_reducible refine' CE.orE ?_ | with_reducible refine' CE.notE ?_ | with_reducible exact CE.neg | with_reducible refine' CE.ite ?_ ?_ ?_ | with_reducible refine' CE.bin ?_ ?_ ?_ | with_reducible refine' CE.cmp ?_ ?_ ?_ | with_reducible refine' CE.cmp2 ?_ ?_ ?_ ?_ ?_
      | with_reducible refine' CE.meth ?_ ?_ ?_ ?_ | with_reducible refine' CE.call ?_ ?_ | with_reducible refine' CE.atA ?_ ?_ | with_reducible refine' CE.data ?_ ?_ | with_reducible refine' CE.slice ?_ ?_ ?_ | with_reducible refine' CE.sub ?_ ?_ | with_reducible refine' CE.tup ?_ | with_reducible refine' CE.list ?_ | with_reducible refine' CE.comp ?_ ?_ ?_ | with_reducible refine' CE.compT ?_ ?_ ?_ ?_
      | first
        | ((with_reducible show CE _ _ _ (.Name _ _) _); first
            | (refine' CE.var ?va ?vb; (case va => kernel_rfl); (case vb => exact rfl))
            | ((with_reducible refine' CE.globR ?va ?vb ?vc); (case va => kernel_rfl); (case vb => kernel_rfl); (case vc => decreasing_trivial_pre_omega))
            | ((with_reducible refine' CE.globB ?va ?vb ?vc); (case va => kernel_rfl); (case vb => kernel_rfl); (case vc => decreasing_trivial_pre_omega))
            | ((with_reducible refine' CE.globT ?va ?vb ?vc); (case va => kernel_rfl); (case vb => kernel_rfl); (case vc => decreasing_trivial_pre_omega))
            | ((with_reducible refine' CE.globI ?va ?vb ?vc); (case va => kernel_rfl); (case vb => kernel_rfl); (case vc => decreasing_trivial_pre_omega))
            | ((with_reducible refine' CE.globY ?va ?vb ?vc); (case va => kernel_rfl); (case vb => kernel_rfl); (case vc => decreasing_trivial_pre_omega)))
        | ((with_reducible show locIx _ _ _ = _); exact rfl)
        | ((with_reducible show globV _ _ = _); decreasing_trivial_pre_omega)
        | ((with_reducible show cMeth _ _ = _); with_reducible (first | exact w_space _ | exact w_need _ | exact w_skip _ | exact w_fault _ | exact w_peek _ | exact w_astring _ | exact w_string_or _ | exact w_string _ | exact w_quoted _ | exact w_literal _ | exact w_run _ | exact w_split _ | exact w_lower _ | exact w_upper _ | exact w_pop _ | exact w_index _ | exact w_append _ | exact w_join _))
        | ((with_reducible show Array.toList _ = _); first | (with_reducible (first | exact cp_0 | exact cp_1 | exact cp_2 | exact cp_3 | exact cp_4 | exact cp_5 | exact cp_6 | exact cp_7 | exact cp_8 | exact cp_9 | exact cp_10 | exact cp_11 | exact cp_12 | exact cp_13 | exact cp_14)) | exact rfl)
        | ((with_reducible show cConst _ = _); exact rfl)
        | ((with_reducible show cBin _ = _); exact rfl)
        | ((with_reducible show cCmp _ = _); exact rfl)
        | kernel_rfl
        | decide)
    all_goals decide

noncomputable def F278 : {f : Fn // ∀ P, CF (KP P) 278 f} := by
  refine ⟨⟨?np, ?nl, ?b⟩, fun P => ⟨?oc, ?od, ?fd, ?sl, ?bd, ?h1, ?h2, ?h3, ?h4, ?h5, ?h6⟩⟩
  case h1 => with_unfolding_all rfl
  case h2 => exact rfl
  case h3 => kernel_rfl
  case h5 => exact rfl
  case h6 => exact rfl
  case h4 =>
    dsimp only [List.map_cons, List.map_nil]
    repeat' (first
      | with_reducible exact All2.nil | with_reducible exact Opt2.none | with_reducible exact CT.nil | with_reducible exact CH.nil | with_reducible exact CN.none
      | with_reducible refine' All2.cons ?_ ?_ | with_reducible refine' Opt2.some ?_ | with_reducible refine' CT.cons ?_ ?_ | with_reducible refine' CH.cons ?_ ?_ ?_ ?_ ?_ ?_ | with_reducible refine' CN.some ?_
      | with_reducible refine' CU.atF ?_ ?_ ?_ | with_reducible refine' CU.none ?_ | with_reducible refine' CU.raise ?_ ?_ ?_ ?_ ?_
      | with_reducible refine' CS.asgC ?_ ?_ ?_ | with_reducible refine' CS.asgAt ?_ ?_ | with_reducible refine' CS.asgT ?_ ?_ ?_ | with_reducible refine' CS.asg ?_ ?_ ?_ | with_reducible refine' CS.expr ?_ ?_ | with_reducible refine' CS.ret ?_ | with_reducible refine' CS.ite ?_ ?_ ?_ | with_reducible refine' CS.whil ?_ ?_ | with_reducible refine' CS.range ?_ ?_ ?_ ?_ ?_ | with_reducible refine' CS.forT ?_ ?_ ?_ ?_ | with_reducible refine' CS.forN ?_ ?_ ?_ | with_reducible refine' CS.raise ?_ | with_reducible refine' CS.tryE ?_ ?_
      | with_reducible refine' CE.str ?_ | with_reducible refine' CE.const ?_ | with_reducible refine' CE.andE ?_ | with_reducible refine' CE.orE ?_ | with_reducible refine' CE.notE ?_ | with_reducible exact CE.neg | with_reducible refine' CE.ite ?_ ?_ ?_ | with_reducible refine' CE.bin ?_ ?_ ?_ | with_reducible refine' CE.cmp ?_ ?_ ?_ | with_reducible refine' CE.cmp2 ?_ ?_ ?_ ?_ ?_
      | with_reducible refine' CE.meth ?_ ?_ ?_ ?_ | with_reducible refine' CE.call ?_ ?_ | with_reducible refine' CE.atA ?_ ?_ | with_reducible refine' CE.data ?_ ?_ | with_reducible refine' CE.slice ?_ ?_ ?_ | with_reducible refine' CE.sub ?_ ?_ | with_reducible refine' CE.tup ?_ | with_reducible refine' CE.list ?_ | with_reducible refine' CE.comp ?_ ?_ ?_ | with_reducible refine' CE.compT ?_ ?_ ?_ ?_
      | first
        | ((with_reducible show CE _ _ _ (.Name _ _) _); first
            | (refine' CE.var ?va ?vb; (case va => kernel_rfl); (case vb => exact rfl))
            | ((with_reducible refine' CE.globR ?va ?vb ?vc); (case va => kernel_rfl); (case vb => kernel_rfl); (case vc => decreasing_trivial_pre_omega))
            | ((with_reducible refine' CE.globB ?va ?vb ?vc); (case va => kernel_rfl); (case vb => kernel_rfl); (case vc => decreasing_trivial_pre_omega))
            | ((with_reducible refine' CE.globT ?va ?vb ?vc); (case va => kernel_rfl); (case vb => kernel_rfl); (case vc => decreasing_trivial_pre_omega))
            | ((with_reducible refine' CE.globI ?va ?vb ?vc); (case va => kernel_rfl); (case vb => kernel_rfl); (case vc => decreasing_trivial_pre_omega))
            | ((with_reducible refine' CE.globY ?va ?vb ?vc); (case va => kernel_rfl); (case vb => kernel_rfl); (case vc => decreasing_trivial_pre_omega)))
        | ((with_reducible show locIx _ _ _ = _); exact rfl)
        | ((with_reducible show globV _ _ = _); decreasing_trivial_pre_omega)
        | ((with_reducible show cMeth _ _ = _); with_reducible (first | exact w_space _ | exact w_need _ | exact w_skip _ | exact w_fault _ | exact w_peek _ | exact w_astring _ | exact w_string_or _ | exact w_string _ | exact w_quoted _ | exact w_literal _ | exact w_run _ | exact w_split _ | exact w_lower _ | exact w_upper _ | exact w_pop _ | exact w_index _ | exact w_append _ | exact w_join _))
        | ((with_reducible show Array.toList _ = _); first | (with_reducible (first | exact cp_0 | exact cp_1 | exact cp_2 | exact cp_3 | exact cp_4 | exact cp_5 | exact cp_6 | exact cp_7 | exact cp_8 | exact cp_9 | exact cp_10 | exact cp_11 | exact cp_12 | exact cp_13 | exact cp_14)) | exact rfl)
        | ((with_reducible show cConst _ = _); exact rfl)
        | ((with_reducible show cBin _ = _); exact rfl)
        | ((with_reducible show cCmp _ = _); exact rfl)
        | kernel_rfl
        | decide)
    all_goals decide

noncomputable def F264 : {f : Fn // ∀ P, CF (KP P) 264 f} := by
  refine ⟨⟨?np, ?nl, ?b⟩, fun P => ⟨?oc, ?od, ?fd, ?sl, ?bd, ?h1, ?h2, ?h3, ?h4, ?h5, ?h6⟩⟩
  case h1 => with_unfolding_all rfl
  case h2 => exact rfl
  case h3 => kernel_rfl
  case h5 => exact rfl
  case h6 => exact rfl
  case h4 =>
    dsimp only [List.map_cons, List.map_nil]
    repeat' (first
      | with_reducible exact All2.nil | with_reducible exact Opt2.none | with_reducible exact CT.nil | with_reducible exact CH.nil | with_reducible exact CN.none
      | with_reducible refine' All2.cons ?_ ?_ | with_reducible refine' Opt2.some ?_ | with_reducible refine' CT.cons ?_ ?_ | with_reducible refine' CH.cons ?_ ?_ ?_ ?_ ?_ ?_ | with_reducible refine' CN.some ?_
      | with_reducible refine' CU.atF ?_ ?_ ?_ | with_reducible refine' CU.none ?_ | with_reducible refine' CU.raise ?_ ?_ ?_ ?_ ?_
      | with_reducible refine' CS.asgC ?_ ?_ ?_ | with_reducible refine' CS.asgAt ?_ ?_ | with_reducible refine' CS.asgT ?_ ?_ ?_ | with_reducible refine' CS.asg ?_ ?_ ?_ | with_reducible refine' CS.expr ?_ ?_ | with_reducible refine' CS.ret ?_ | with_reducible refine' CS.ite ?_ ?_ ?_ | with_reducible refine' CS.whil ?_ ?_ | with_reducible refine' CS.range ?_ ?_ ?_ ?_ ?_ | with_reducible refine' CS.forT ?_ ?_ ?_ ?_ | with_reducible refine' CS.forN ?_ ?_ ?_ | with_reducible refine' CS.raise ?_ | with_reducible refine' CS.tryE ?_ ?_
      | with_reducible refine' CE.str ?_ | with_reducible refine' CE.const ?_ | with_reducible refine' CE.andE ?_ | with_reducible refine' CE.orE ?_ | with_reducible refine' CE.notE ?_ | with_reducible exact CE.neg | with_reducible refine' CE.ite ?_ ?_ ?_ | with_reducible refine' CE.bin ?_ ?_ ?_ | with_reducible refine' CE.cmp ?_ ?_ ?_ | with_reducible refine' CE.cmp2 ?_ ?_ ?_ ?_ ?_
      | with_reducible refine' CE.meth ?_ ?_ ?_ ?_ | with_reducible refine' CE.call ?_ ?_ | with_reducible refine' CE.atA ?_ ?_ | with_reducible refine' CE.data ?_ ?_ | with_reducible refine' CE.slice ?_ ?_ ?_ | with_reducible refine' CE.sub ?_ ?_ | with_reducible refine' CE.tup ?_ | with_reducible refine' CE.list ?_ | with_reducible refine' CE.comp ?_ ?_ ?_ | with_reducible refine' CE.compT ?_ ?_ ?_ ?_
      | first
        | ((with_reducible show CE _ _ _ (.Name _ _) _); first
            | (refine' CE.var ?va ?vb; (case va => kernel_rfl); (case vb => exact rfl))
            | ((with_reducible refine' CE.globR ?va ?vb ?vc); (case va => kernel_rfl); (case vb => kernel_rfl); (case vc => decreasing_trivial_pre_omega))
            | ((with_reducible refine' CE.globB ?va ?vb ?vc); (case va => kernel_rfl); (case vb => kernel_rfl); (case vc => decreasing_trivial_pre_omega))
            | ((with_reducible refine' CE.globT ?va ?vb ?vc); (case va => kernel_rfl); (case vb => kernel_rfl); (case vc => decreasing_trivial_pre_omega))
            | ((with_reducible refine' CE.globI ?va ?vb ?vc); (case va => kernel_rfl); (case vb => kernel_rfl); (case vc => decreasing_trivial_pre_omega))
            | ((with_reducible refine' CE.globY ?va ?vb ?vc); (case va => kernel_rfl); (case vb => kernel_rfl); (case vc => decreasing_trivial_pre_omega)))
        | ((with_reducible show locIx _ _ _ = _); exact rfl)
        | ((with_reducible show globV _ _ = _); decreasing_trivial_pre_omega)
        | ((with_reducible show cMeth _ _ = _); with_reducible (first | exact w_space _ | exact w_need _ | exact w_skip _ | exact w_fault _ | exact w_peek _ | exact w_astring _ | exact w_string_or _ | exact w_string _ | exact w_quoted _ | exact w_literal _ | exact w_run _ | exact w_split _ | exact w_lower _ | exact w_upper _ | exact w_pop _ | exact w_index _ | exact w_append _ | exact w_join _))
        | ((with_reducible show Array.toList _ = _); first | (with_reducible (first | exact cp_0 | exact cp_1 | exact cp_2 | exact cp_3 | exact cp_4 | exact cp_5 | exact cp_6 | exact cp_7 | exact cp_8 | exact cp_9 | exact cp_10 | exact cp_11 | exact cp_12 | exact cp_13 | exact cp_14)) | exact rfl)
        | ((with_reducible show cConst _ = _); exact rfl)
        | ((with_reducible show cBin _ = _); exact rfl)
        | ((with_reducible show cCmp _ = _); exact rfl)
        | kernel_rfl
        | decide)
    all_goals decide

noncomputable def F285 : {f : Fn // ∀ P, CF (KP P) 285 f} := by
  refine ⟨⟨?np, ?nl, ?b⟩, fun P => ⟨?oc, ?od, ?fd, ?sl, ?bd, ?h1, ?h2, ?h3, ?h4, ?h5, ?h6⟩⟩
  case h1 => with_unfolding_all rfl
  case h2 => exact rfl
  case h3 => kernel_rfl
  case h5 => exact rfl
  case h6 => exact rfl
  case h4 =>
    dsimp only [List.map_cons, List.map_nil]
    repeat' (first
      | with_reducible exact All2.nil | with_reducible exact Opt2.none | with_reducible exact CT.nil | with_reducible exact CH.nil | with_reducible exact CN.none
      | with_reducible refine' All2.cons ?_ ?_ | with_reducible refine' Opt2.some ?_ | with_reducible refine' CT.cons ?_ ?_ | with_reducible refine' CH.cons ?_ ?_ ?_ ?_ ?_ ?_ | with_reducible refine' CN.some ?_
      | with_reducible refine' CU.atF ?_ ?_ ?_ | with_reducible refine' CU.none ?_ | with_reducible refine' CU.raise ?_ ?_ ?_ ?_ ?_
      | with_reducible refine' CS.asgC ?_ ?_ ?_ | with_reducible refine' CS.asgAt ?_ ?_ | with_reducible refine' CS.asgT ?_ ?_ ?_ | with_reducible refine' CS.asg ?_ ?_ ?_ | with_reducible refine' CS.expr ?_ ?_ | with_reducible refine' CS.ret ?_ | with_reducible refine' CS.ite ?_ ?_ ?_ | with_reducible refine' CS.whil ?_ ?_ | with_reducible refine' CS.range ?_ ?_ ?_ ?_ ?_ | with_reducible refine' CS.forT ?_ ?_ ?_ ?_ | with_reducible refine' CS.forN ?_ ?_ ?_ | with_reducible refine' CS.raise ?_ | with_reducible refine' CS.tryE ?_ ?_
      | with_reducible refine' CE.str ?_ | with_reducible refine' CE.const ?_ | with_reducible refine' CE.andE ?_ | with_reducible refine' CE.orE ?_ | with_reducible refine' CE.notE ?_ | with_reducible exact CE.neg | with_reducible refine' CE.ite ?_ ?_ ?_ | with_reducible refine' CE.bin ?_ ?_ ?_ | with_reducible refine' CE.cmp ?_ ?_ ?_ | with_reducible refine' CE.cmp2 ?_ ?_ ?_ ?_ ?_
      | with_reducible refine' CE.meth ?_ ?_ ?_ ?_ | with_reducible refine' CE.call ?_ ?_ | with_reducible refine' CE.atA ?_ ?_ | with_reducible refine' CE.data ?_ ?_ | with_reducible refine' CE.slice ?_ ?_ ?_ | with_reducible refine' CE.sub ?_ ?_ | with_reducible refine' CE.tup ?_ | with_reducible refine' CE.list ?_ | with_reducible refine' CE.comp ?_ ?_ ?_ | with_reducible refine' CE.compT ?_ ?_ ?_ ?_
      | first
        | ((with_reducible show CE _ _ _ (.Name _ _) _); first
            | (refine' CE.var ?va ?vb; (case va => kernel_rfl); (case vb => exact rfl))
            | ((with_reducible refine' CE.globR ?va ?vb ?vc); (case va => kernel_rfl); (case vb => kernel_rfl); (case vc => decreasing_trivial_pre_omega))
            | ((with_reducible refine' CE.globB ?va ?vb ?vc); (case va => kernel_rfl); (case vb => kernel_rfl); (case vc => decreasing_trivial_pre_omega))
            | ((with_reducible refine' CE.globT ?va ?vb ?vc); (case va => kernel_rfl); (case vb => kernel_rfl); (case vc => decreasing_trivial_pre_omega))
            | ((with_reducible refine' CE.globI ?va ?vb ?vc); (case va => kernel_rfl); (case vb => kernel_rfl); (case vc => decreasing_trivial_pre_omega))
            | ((with_reducible refine' CE.globY ?va ?vb ?vc); (case va => kernel_rfl); (case vb => kernel_rfl); (case vc => decreasing_trivial_pre_omega)))
        | ((with_reducible show locIx _ _ _ = _); exact rfl)
        | ((with_reducible show globV _ _ = _); decreasing_trivial_pre_omega)
        | ((with_reducible show cMeth _ _ = _); with_reducible (first | exact w_space _ | exact w_need _ | exact w_skip _ | exact w_fault _ | exact w_peek _ | exact w_astring _ | exact w_string_or _ | exact w_string _ | exact w_quoted _ | exact w_literal _ | exact w_run _ | exact w_split _ | exact w_lower _ | exact w_upper _ | exact w_pop _ | exact w_index _ | exact w_append _ | exact w_join _))
        | ((with_reducible show Array.toList _ = _); first | (with_reducible (first | exact cp_0 | exact cp_1 | exact cp_2 | exact cp_3 | exact cp_4 | exact cp_5 | exact cp_6 | exact cp_7 | exact cp_8 | exact cp_9 | exact cp_10 | exact cp_11 | exact cp_12 | exact cp_13 | exact cp_14)) | exact rfl)
        | ((with_reducible show cConst _ = _); exact rfl)
        | ((with_reducible show cBin _ = _); exact rfl)
        | ((with_reducible show cCmp _ = _); exact rfl)
        | kernel_rfl
        | decide)
    all_goals decide

noncomputable def F299 : {f : Fn // ∀ P, CF (KP P) 299 f} := by
  refine ⟨⟨?np, ?nl, ?b⟩, fun P => ⟨?oc, ?od, ?fd, ?sl, ?bd, ?h1, ?h2, ?h3, ?h4, ?h5, ?h6⟩⟩
  case h1 => with_unfolding_all rfl
  case h2 => exact rfl
  case h3 => kernel_rfl
  case h5 => exact rfl
  case h6 => exact rfl
  case h4 =>
    dsimp only [List.map_cons, List.map_nil]
    repeat' (first
      | with_reducible exact All2.nil | with_reducible exact Opt2.none | with_reducible exact CT.nil | with_reducible exact CH.nil | with_reducible exact CN.none
      | with_reducible refine' All2.cons ?_ ?_ | with_reducible refine' Opt2.some ?_ | with_reducible refine' CT.cons ?_ ?_ | with_reducible refine' CH.cons ?_ ?_ ?_ ?_ ?_ ?_ | with_reducible refine' CN.some ?_
      | with_reducible refine' CU.atF ?_ ?_ ?_ | with_reducible refine' CU.none ?_ | with_reducible refine' CU.raise ?_ ?_ ?_ ?_ ?_
      | with_reducible refine' CS.asgC ?_ ?_ ?_ | with_reducible refine' CS.asgAt ?_ ?_ | with_reducible refine' CS.asgT ?_ ?_ ?_ | with_reducible refine' CS.asg ?_ ?_ ?_ | with_reducible refine' CS.expr ?_ ?_ | with_reducible refine' CS.ret ?_ | with_reducible refine' CS.ite ?_ ?_ ?_ | with_reducible refine' CS.whil ?_ ?_ | with_reducible refine' CS.range ?_ ?_ ?_ ?_ ?_ | with_reducible refine' CS.forT ?_ ?_ ?_ ?_ | with_reducible refine' CS.forN ?_ ?_ ?_ | with_reducible refine' CS.raise ?_ | with_reducible refine' CS.tryE ?_ ?_
      | with_reducible refine' CE.str ?_ | with_reducible refine' CE.const ?_ | with_reducible refine' CE.andE ?_ | with_reducible refine' CE.orE ?_ | with_reducible refine' CE.notE ?_ | with_reducible exact CE.neg | with_reducible refine' CE.ite ?_ ?_ ?_ | with_reducible refine' CE.bin ?_ ?_ ?_ | with_reducible refine' CE.cmp ?_ ?_ ?_ | with_reducible refine' CE.cmp2 ?_ ?_ ?_ ?_ ?_
      | with_reducible refine' CE.meth ?_ ?_ ?_ ?_ | with_reducible refine' CE.call ?_ ?_ | with_reducible refine' CE.atA ?_ ?_ | with_reducible refine' CE.data ?_ ?_ | with_reducible refine' CE.slice ?_ ?_ ?_ | with_reducible refine' CE.sub ?_ ?_ | with_reducible refine' CE.tup ?_ | with_reducible refine' CE.list ?_ | with_reducible refine' CE.comp ?_ ?_ ?_ | with_reducible refine' CE.compT ?_ ?_ ?_ ?_
      | first
        | ((with_reducible show CE _ _ _ (.Name _ _) _); first
            | (refine' CE.var ?va ?vb; (case va => kernel_rfl); (case vb => exact rfl))
            | ((with_reducible refine' CE.globR ?va ?vb ?vc); (case va => kernel_rfl); (case vb => kernel_rfl); (case vc => decreasing_trivial_pre_omega))
            | ((with_reducible refine' CE.globB ?va ?vb ?vc); (case va => kernel_rfl); (case vb => kernel_rfl); (case vc => decreasing_trivial_pre_omega))
            | ((with_reducible refine' CE.globT ?va ?vb ?vc); (case va => kernel_rfl); (case vb => kernel_rfl); (case vc => decreasing_trivial_pre_omega))
            | ((with_reducible refine' CE.globI ?va ?vb ?vc); (case va => kernel_rfl); (case vb => kernel_rfl); (case vc => decreasing_trivial_pre_omega))
            | ((with_reducible refine' CE.globY ?va ?vb ?vc); (case va => kernel_rfl); (case vb => kernel_rfl); (case vc => decreasing_trivial_pre_omega)))
        | ((with_reducible show locIx _ _ _ = _); exact rfl)
        | ((with_reducible show globV _ _ = _); decreasing_trivial_pre_omega)
        | ((with_reducible show cMeth _ _ = _); with_reducible (first | exact w_space _ | exact w_need _ | exact w_skip _ | exact w_fault _ | exact w_peek _ | exact w_astring _ | exact w_string_or _ | exact w_string _ | exact w_quoted _ | exact w_literal _ | exact w_run _ | exact w_split _ | exact w_lower _ | exact w_upper _ | exact w_pop _ | exact w_index _ | exact w_append _ | exact w_join _))
        | ((with_reducible show Array.toList _ = _); first | (with_reducible (first | exact cp_0 | exact cp_1 | exact cp_2 | exact cp_3 | exact cp_4 | exact cp_5 | exact cp_6 | exact cp_7 | exact cp_8 | exact cp_9 | exact cp_10 | exact cp_11 | exact cp_12 | exact cp_13 | exact cp_14)) | exact rfl)
        | ((with_reducible show cConst _ = _); exact rfl)
        | ((with_reducible show cBin _ = _); exact rfl)
        | ((with_reducible show cCmp _ = _); exact rfl)
        | kernel_rfl
        | decide)
    all_goals decide

noncomputable def F257 : {f : Fn // ∀ P, CF (KP P) 257 f} := by
  refine ⟨⟨?np, ?nl, ?b⟩, fun P => ⟨?oc, ?od, ?fd, ?sl, ?bd, ?h1, ?h2, ?h3, ?h4, ?h5, ?h6⟩⟩
  case h1 => with_unfolding_all rfl
  case h2 => exact rfl
  case h3 => kernel_rfl
  case h5 => exact rfl
  case h6 => exact rfl
  case h4 =>
    dsimp only [List.map_cons, List.map_nil]
    repeat' (first
      | with_reducible exact All2.nil | with_reducible exact Opt2.none | with_reducible exact CT.nil | with_reducible exact CH.nil | with_reducible exact CN.none
      | with_reducible refine' All2.cons ?_ ?_ | with_reducible refine' Opt2.some ?_ | with_reducible refine' CT.cons ?_ ?_ | with_reducible refine' CH.cons ?_ ?_ ?_ ?_ ?_ ?_ | with_reducible refine' CN.some ?_
      | with_reducible refine' CU.atF ?_ ?_ ?_ | with_reducible refine' CU.none ?_ | with_reducible refine' CU.raise ?_ ?_ ?_ ?_ ?_
      | with_reducible refine' CS.asgC ?_ ?_ ?_ | with_reducible refine' CS.asgAt ?_ ?_ | with_reducible refine' CS.asgT ?_ ?_ ?_ | with_reducible refine' CS.asg ?_ ?_ ?_ | with_reducible refine' CS.expr ?_ ?_ | with_reducible refine' CS.ret ?_ | with_reducible refine' CS.ite ?_ ?_ ?_ | with_reducible refine' CS.whil ?_ ?_ | with_reducible refine' CS.range ?_ ?_ ?_ ?_ ?_ | with_reducible refine' CS.forT ?_ ?_ ?_ ?_ | with_reducible refine' CS.forN ?_ ?_ ?_ | with_reducible refine' CS.raise ?_ | with_reducible refine' CS.tryE ?_ ?_
      | with_reducible refine' CE.str ?_ | with_reducible refine' CE.const ?_ | with_reducible refine' CE.andE ?_ | with_reducible refine' CE.orE ?_ | with_reducible refine' CE.notE ?_ | with_reducible exact CE.neg | with_reducible refine' CE.ite ?_ ?_ ?_ | with_reducible refine' CE.bin ?_ ?_ ?_ | with_reducible refine' CE.cmp ?_ ?_ ?_ | with_reducible refine' CE.cmp2 ?_ ?_ ?_ ?_ ?_
      | with_reducible refine' CE.meth ?_ ?_ ?_ ?_ | with_reducible refine' CE.call ?_ ?_ | with_reducible refine' CE.atA ?_ ?_ | with_reducible refine' CE.data ?_ ?_ | with_reducible refine' CE.slice ?_ ?_ ?_ | with_reducible refine' CE.sub ?_ ?_ | with_reducible refine' CE.tup ?_ | with_reducible refine' CE.list ?_ | with_reducible refine' CE.comp ?_ ?_ ?_ | with_reducible refine' CE.compT ?_ ?_ ?_ ?_
      | first
        | ((with_reducible show CE _ _ _ (.Name _ _) _); first
            | (refine' CE.var ?va ?vb; (case va => kernel_rfl); (case vb => exact rfl))
            | ((with_reducible refine' CE.globR ?va ?vb ?vc); (case va => kernel_rfl); (case vb => kernel_rfl); (case vc => decreasing_trivial_pre_omega))
            | ((with_reducible refine' CE.globB ?va ?vb ?vc); (case va => kernel_rfl); (case vb => kernel_rfl); (case vc => decreasing_trivial_pre_omega))
            | ((with_reducible refine' CE.globT ?va ?vb ?vc); (case va => kernel_rfl); (case vb => kernel_rfl); (case vc => decreasing_trivial_pre_omega))
            | ((with_reducible refine' CE.globI ?va ?vb ?vc); (case va => kernel_rfl); (case vb => kernel_rfl); (case vc => decreasing_trivial_pre_omega))
            | ((with_reducible refine' CE.globY ?va ?vb ?vc); (case va => kernel_rfl); (case vb => kernel_rfl); (case vc => decreasing_trivial_pre_omega)))
        | ((with_reducible show locIx _ _ _ = _); exact rfl)
        | ((with_reducible show globV _ _ = _); decreasing_trivial_pre_omega)
        | ((with_reducible show cMeth _ _ = _); with_reducible (first | exact w_space _ | exact w_need _ | exact w_skip _ | exact w_fault _ | exact w_peek _ | exact w_astring _ | exact w_string_or _ | exact w_string _ | exact w_quoted _ | exact w_literal _ | exact w_run _ | exact w_split _ | exact w_lower _ | exact w_upper _ | exact w_pop _ | exact w_index _ | exact w_append _ | exact w_join _))
        | ((with_reducible show Array.toList _ = _); first | (with_reducible (first | exact cp_0 | exact cp_1 | exact cp_2 | exact cp_3 | exact cp_4 | exact cp_5 | exact cp_6 | exact cp_7 | exact cp_8 | exact cp_9 | exact cp_10 | exact cp_11 | exact cp_12 | exact cp_13 | exact cp_14)) | exact rfl)
        | ((with_reducible show cConst _ = _); exact rfl)
        | ((with_reducible show cBin _ = _); exact rfl)
        | ((with_reducible show cCmp _ = _); exact rfl)
        | kernel_rfl
        | decide)
    all_goals decide

noncomputable def F369 : {f : Fn // ∀ P, CF (KP P) 369 f} := by
  refine ⟨⟨?np, ?nl, ?b⟩, fun P => ⟨?oc, ?od, ?fd, ?sl, ?bd, ?h1, ?h2, ?h3, ?h4, ?h5, ?h6⟩⟩
  case h1 => with_unfolding_all rfl
  case h2 => exact rfl
  case h3 => kernel_rfl
  case h5 => exact rfl
  case h6 => exact rfl
  case h4 =>
    dsimp only [List.map_cons, List.map_nil]
    repeat' (first
      | with_reducible exact All2.nil | with_reducible exact Opt2.none | with_reducible exact CT.nil | with_reducible exact CH.nil | with_reducible exact CN.none
      | with_reducible refine' All2.cons ?_ ?_ | with_reducible refine' Opt2.some ?_ | with_reducible refine' CT.cons ?_ ?_ | with_reducible refine' CH.cons ?_ ?_ ?_ ?_ ?_ ?_ | with_reducible refine' CN.some ?_
      | with_reducible refine' CU.atF ?_ ?_ ?_ | with_reducible refine' CU.none ?_ | with_reducible refine' CU.raise ?_ ?_ ?_ ?_ ?_
      | with_reducible refine' CS.asgC ?_ ?_ ?_ | with_reducible refine' CS.asgAt ?_ ?_ | with_reducible refine' CS.asgT ?_ ?_ ?_ | with_reducible refine' CS.asg ?_ ?_ ?_ | with_reducible refine' CS.expr ?_ ?_ | with_reducible refine' CS.ret ?_ | with_reducible refine' CS.ite ?_ ?_ ?_ | with_reducible refine' CS.whil ?_ ?_ | with_reducible refine' CS.range ?_ ?_ ?_ ?_ ?_ | with_reducible refine' CS.forT ?_ ?_ ?_ ?_ | with_reducible refine' CS.forN ?_ ?_ ?_ | with_reducible refine' CS.raise ?_ | with_reducible refine' CS.tryE ?_ ?_
      | with_reducible refine' CE.str ?_ | with_reducible refine' CE.const ?_ | with_reducible refine' CE.andE ?_ | with_reducible refine' CE.orE ?_ | with_reducible refine' CE.notE ?_ | with_reducible exact CE.neg | with_reducible refine' CE.ite ?_ ?_ ?_ | with_reducible refine' CE.bin ?_ ?_ ?_ | with_reducible refine' CE.cmp ?_ ?_ ?_ | with_reducible refine' CE.cmp2 ?_ ?_ ?_ ?_ ?_
      | with_reducible refine' CE.meth ?_ ?_ ?_ ?_ | with_reducible refine' CE.call ?_ ?_ | with_reducible refine' CE.atA ?_ ?_ | with_reducible refine' CE.data ?_ ?_ | with_reducible refine' CE.slice ?_ ?_ ?_ | with_reducible refine' CE.sub ?_ ?_ | with_reducible refine' CE.tup ?_ | with_reducible refine' CE.list ?_ | with_reducible refine' CE.comp ?_ ?_ ?_ | with_reducible refine' CE.compT ?_ ?_ ?_ ?_
      | first
        | ((with_reducible show CE _ _ _ (.Name _ _) _); first
            | (refine' CE.var ?va ?vb; (case va => kernel_rfl); (case vb => exact rfl))
            | ((with_reducible refine' CE.globR ?va ?vb ?vc); (case va => kernel_rfl); (case vb => kernel_rfl); (case vc => decreasing_trivial_pre_omega))
            | ((with_reducible refine' CE.globB ?va ?vb ?vc); (case va => kernel_rfl); (case vb => kernel_rfl); (case vc => decreasing_trivial_pre_omega))
            | ((with_reducible refine' CE.globT ?va ?vb ?vc); (case va => kernel_rfl); (case vb => kernel_rfl); (case vc => decreasing_trivial_pre_omega))
            | ((with_reducible refine' CE.globI ?va ?vb ?vc); (case va => kernel_rfl); (case vb => kernel_rfl); (case vc => decreasing_trivial_pre_omega))
            | ((with_reducible refine' CE.globY ?va ?vb ?vc); (case va => kernel_rfl); (case vb => kernel_rfl); (case vc => decreasing_trivial_pre_omega)))
        | ((with_reducible show locIx _ _ _ = _); exact rfl)
        | ((with_reducible show globV _ _ = _); decreasing_trivial_pre_omega)
        | ((with_reducible show cMeth _ _ = _); with_reducible (first | exact w_space _ | exact w_need _ | exact w_skip _ | exact w_fault _ | exact w_peek _ | exact w_astring _ | exact w_string_or _ | exact w_string _ | exact w_quoted _ | exact w_literal _ | exact w_run _ | exact w_split _ | exact w_lower _ | exact w_upper _ | exact w_pop _ | exact w_index _ | exact w_append _ | exact w_join _))
        | ((with_reducible show Array.toList _ = _); first | (with_reducible (first | exact cp_0 | exact cp_1 | exact cp_2 | exact cp_3 | exact cp_4 | exact cp_5 | exact cp_6 | exact cp_7 | exact cp_8 | exact cp_9 | exact cp_10 | exact cp_11 | exact cp_12 | exact cp_13 | exact cp_14)) | exact rfl)
        | ((with_reducible show cConst _ = _); exact rfl)
        | ((with_reducible show cBin _ = _); exact rfl)
        | ((with_reducible show cCmp _ = _); exact rfl)
        | kernel_rfl
        | decide)
    all_goals decide

noncomputable def F376 : {f : Fn // ∀ P, CF (KP P) 376 f} := by
  refine ⟨⟨?np, ?nl, ?b⟩, fun P => ⟨?oc, ?od, ?fd, ?sl, ?bd, ?h1, ?h2, ?h3, ?h4, ?h5, ?h6⟩⟩
  case h1 => with_unfolding_all rfl
  case h2 => exact rfl
  case h3 => kernel_rfl
  case h5 => exact rfl
  case h6 => exact rfl
  case h4 =>
    dsimp only [List.map_cons, List.map_nil]
    repeat' (first
      | with_reducible exact All2.nil | with_reducible exact Opt2.none | with_reducible exact CT.nil | with_reducible exact CH.nil | with_reducible exact CN.none
      | with_reducible refine' All2.cons ?_ ?_ | with_reducible refine' Opt2.some ?_ | with_reducible refine' CT.cons ?_ ?_ | with_reducible refine' CH.cons ?_ ?_ ?_ ?_ ?_ ?_ | with_reducible refine' CN.some ?_
      | with_reducible refine' CU.atF ?_ ?_ ?_ | with_reducible refine' CU.none ?_ | with_reducible refine' CU.raise ?_ ?_ ?_ ?_ ?_
      | with_reducible refine' CS.asgC ?_ ?_ ?_ | with_reducible refine' CS.asgAt ?_ ?_ | with_reducible refine' CS.asgT ?_ ?_ ?_ | with_reducible refine' CS.asg ?_ ?_ ?_ | with_reducible refine' CS.expr ?_ ?_ | with_reducible refine' CS.ret ?_ | with_reducible refine' CS.ite ?_ ?_ ?_ | with_reducible refine' CS.whil ?_ ?_ | with_reducible refine' CS.range ?_ ?_ ?_ ?_ ?_ | with_reducible refine' CS.forT ?_ ?_ ?_ ?_ | with_reducible refine' CS.forN ?_ ?_ ?_ | with_reducible refine' CS.raise ?_ | with_reducible refine' CS.tryE ?_ ?_
      | with_reducible refine' CE.str ?_ | with_reducible refine' CE.const ?_ | with_reducible refine' CE.andE ?_ | with_reducible refine' CE.orE ?_ | with_reducible refine' CE.notE ?_ | with_reducible exact CE.neg | with_reducible refine' CE.ite ?_ ?_ ?_ | with_reducible refine' CE.bin ?_ ?_ ?_ | with_reducible refine' CE.cmp ?_ ?_ ?_ | with_reducible refine' CE.cmp2 ?_ ?_ ?_ ?_ ?_
      | with_reducible refine' CE.meth ?_ ?_ ?_ ?_ | with_reducible refine' CE.call ?_ ?_ | with_reducible refine' CE.atA ?_ ?_ | with_reducible refine' CE.data ?_ ?_ | with_reducible refine' CE.slice ?_ ?_ ?_ | with_reducible refine' CE.sub ?_ ?_ | with_reducible refine' CE.tup ?_ | with_reducible refine' CE.list ?_ | with_reducible refine' CE.comp ?_ ?_ ?_ | with_reducible refine' CE.compT ?_ ?_ ?_ ?_
      | first
        | ((with_reducible show CE _ _ _ (.Name _ _) _); first
            | (refine' CE.var ?va ?vb; (case va => kernel_rfl); (case vb => exact rfl))
            | ((with_reducible refine' CE.globR ?va ?vb ?vc); (case va => kernel_rfl); (case vb => kernel_rfl); (case vc => decreasing_trivial_pre_omega))
            | ((with_reducible refine' CE.globB ?va ?vb ?vc); (case va => kernel_rfl); (case vb => kernel_rfl); (case vc => decreasing_trivial_pre_omega))
            | ((with_reducible refine' CE.globT ?va ?vb ?vc); (case va => kernel_rfl); (case vb => kernel_rfl); (case vc => decreasing_trivial_pre_omega))
            | ((with_reducible refine' CE.globI ?va ?vb ?vc); (case va => kernel_rfl); (case vb => kernel_rfl); (case vc => decreasing_trivial_pre_omega))
            | ((with_reducible refine' CE.globY ?va ?vb ?vc); (case va => kernel_rfl); (case vb => kernel_rfl); (case vc => decreasing_trivial_pre_omega)))
        | ((with_reducible show locIx _ _ _ = _); exact rfl)
        | ((with_reducible show globV _ _ = _); decreasing_trivial_pre_omega)
        | ((with_reducible show cMeth _ _ = _); with_reducible (first | exact w_space _ | exact w_need _ | exact w_skip _ | exact w_fault _ | exact w_peek _ | exact w_astring _ | exact w_string_or _ | exact w_string _ | exact w_quoted _ | exact w_literal _ | exact w_run _ | exact w_split _ | exact w_lower _ | exact w_upper _ | exact w_pop _ | exact w_index _ | exact w_append _ | exact w_join _))
        | ((with_reducible show Array.toList _ = _); first | (with_reducible (first | exact cp_0 | exact cp_1 | exact cp_2 | exact cp_3 | exact cp_4 | exact cp_5 | exact cp_6 | exact cp_7 | exact cp_8 | exact cp_9 | exact cp_10 | exact cp_11 | exact cp_12 | exact cp_13 | exact cp_14)) | exact rfl)
        | ((with_reducible show cConst _ = _); exact rfl)
        | ((with_reducible show cBin _ = _); exact rfl)
        | ((with_reducible show cCmp _ = _); exact rfl)
        | kernel_rfl
        | decide)
    all_goals decide

noncomputable def F383 : {f : Fn // ∀ P, CF (KP P) 383 f} := by
  refine ⟨⟨?np, ?nl, ?b⟩, fun P => ⟨?oc, ?od, ?fd, ?sl, ?bd, ?h1, ?h2, ?h3, ?h4, ?h5, ?h6⟩⟩
  case h1 => with_unfolding_all rfl
  case h2 => exact rfl
  case h3 => kernel_rfl
  case h5 => exact rfl
  case h6 => exact rfl
  case h4 =>
    dsimp only [List.map_cons, List.map_nil]
    repeat' (first
      | with_reducible exact All2.nil | with_reducible exact Opt2.none | with_reducible exact CT.nil | with_reducible exact CH.nil | with_reducible exact CN.none
      | with_reducible refine' All2.cons ?_ ?_ | with_reducible refine' Opt2.some ?_ | with_reducible refine' CT.cons ?_ ?_ | with_reducible refine' CH.cons ?_ ?_ ?_ ?_ ?_ ?_ | with_reducible refine' CN.some ?_
      | with_reducible refine' CU.atF ?_ ?_ ?_ | with_reducible refine' CU.none ?_ | with_reducible refine' CU.raise ?_ ?_ ?_ ?_ ?_
      | with_reducible refine' CS.asgC ?_ ?_ ?_ | with_reducible refine' CS.asgAt ?_ ?_ | with_reducible refine' CS.asgT ?_ ?_ ?_ | with_reducible refine' CS.asg ?_ ?_ ?_ | with_reducible refine' CS.expr ?_ ?_ | with_reducible refine' CS.ret ?_ | with_reducible refine' CS.ite ?_ ?_ ?_ | with_reducible refine' CS.whil ?_ ?_ | with_reducible refine' CS.range ?_ ?_ ?_ ?_ ?_ | with_reducible refine' CS.forT ?_ ?_ ?_ ?_ | with_reducible refine' CS.forN ?_ ?_ ?_ | with_reducible refine' CS.raise ?_ | with_reducible refine' CS.tryE ?_ ?_
      | with_reducible refine' CE.str ?_ | with_reducible refine' CE.const ?_ | with_reducible refine' CE.andE ?_ | with_reducible refine' CE.orE ?_ | with_reducible refine' CE.notE ?_ | with_reducible exact CE.neg | with_reducible refine' CE.ite ?_ ?_ ?_ | with_reducible refine' CE.bin ?_ ?_ ?_ | with_reducible refine' CE.cmp ?_ ?_ ?_ | with_reducible refine' CE.cmp2 ?_ ?_ ?_ ?_ ?_
      | with_reducible refine' CE.meth ?_ ?_ ?_ ?_ | with_reducible refine' CE.call ?_ ?_ | with_reducible refine' CE.atA ?_ ?_ | with_reducible refine' CE.data ?_ ?_ | with_reducible refine' CE.slice ?_ ?_ ?_ | with_reducible refine' CE.sub ?_ ?_ | with_reducible refine' CE.tup ?_ | with_reducible refine' CE.list ?_ | with_reducible refine' CE.comp ?_ ?_ ?_ | with_reducible refine' CE.compT ?_ ?_ ?_ ?_
      | first
        | ((with_reducible show CE _ _ _ (.Name _ _) _); first
            | (refine' CE.var ?va ?vb; (case va => kernel_rfl); (case vb => exact rfl))
            | ((with_reducible refine' CE.globR ?va ?vb ?vc); (case va => kernel_rfl); (case vb => kernel_rfl); (case vc => decreasing_trivial_pre_omega))
            | ((with_reducible refine' CE.globB ?va ?vb ?vc); (case va => kernel_rfl); (case vb => kernel_rfl); (case vc => decreasing_trivial_pre_omega))
            | ((with_reducible refine' CE.globT ?va ?vb ?vc); (case va => kernel_rfl); (case vb => kernel_rfl); (case vc => decreasing_trivial_pre_omega))
            | ((with_reducible refine' CE.globI ?va ?vb ?vc); (case va => kernel_rfl); (case vb => kernel_rfl); (case vc => decreasing_trivial_pre_omega))
            | ((with_reducible refine' CE.globY ?va ?vb ?vc); (case va => kernel_rfl); (case vb => kernel_rfl); (case vc => decreasing_trivial_pre_omega)))
        | ((with_reducible show locIx _ _ _ = _); exact rfl)
        | ((with_reducible show globV _ _ = _); decreasing_trivial_pre_omega)
        | ((with_reducible show cMeth _ _ = _); with_reducible (first | exact w_space _ | exact w_need _ | exact w_skip _ | exact w_fault _ | exact w_peek _ | exact w_astring _ | exact w_string_or _ | exact w_string _ | exact w_quoted _ | exact w_literal _ | exact w_run _ | exact w_split _ | exact w_lower _ | exact w_upper _ | exact w_pop _ | exact w_index _ | exact w_append _ | exact w_join _))
        | ((with_reducible show Array.toList _ = _); first | (with_reducible (first | exact cp_0 | exact cp_1 | exact cp_2 | exact cp_3 | exact cp_4 | exact cp_5 | exact cp_6 | exact cp_7 | exact cp_8 | exact cp_9 | exact cp_10 | exact cp_11 | exact cp_12 | exact cp_13 | exact cp_14)) | exact rfl)
        | ((with_reducible show cConst _ = _); exact rfl)
        | ((with_reducible show cBin _ = _); exact rfl)
        | ((with_reducible show cCmp _ = _); exact rfl)
        | kernel_rfl
        | decide)
    all_goals decide

noncomputable def F355 : {f : Fn // ∀ P, CF (KP P) 355 f} := by
  refine ⟨⟨?np, ?nl, ?b⟩, fun P => ⟨?oc, ?od, ?fd, ?sl, ?bd, ?h1, ?h2, ?h3, ?h4, ?h5, ?h6⟩⟩
  case h1 => with_unfolding_all rfl
  case h2 => exact rfl
  case h3 => kernel_rfl
  case h5 => exact rfl
  case h6 => exact rfl
  case h4 =>
    dsimp only [List.map_cons, List.map_nil]
    repeat' (first
      | with_reducible exact All2.nil | with_reducible exact Opt2.none | with_reducible exact CT.nil | with_reducible exact CH.nil | with_reducible exact CN.none
      | with_reducible refine' All2.cons ?_ ?_ | with_reducible refine' Opt2.some ?_ | with_reducible refine' CT.cons ?_ ?_ | with_reducible refine' CH.cons ?_ ?_ ?_ ?_ ?_ ?_ | with_reducible refine' CN.some ?_
      | with_reducible refine' CU.atF ?_ ?_ ?_ | with_reducible refine' CU.none ?_ | with_reducible refine' CU.raise ?_ ?_ ?_ ?_ ?_
      | with_reducible refine' CS.asgC ?_ ?_ ?_ | with_reducible refine' CS.asgAt ?_ ?_ | with_reducible refine' CS.asgT ?_ ?_ ?_ | with_reducible refine' CS.asg ?_ ?_ ?_ | with_reducible refine' CS.expr ?_ ?_ | with_reducible refine' CS.ret ?_ | with_reducible refine' CS.ite ?_ ?_ ?_ | with_reducible refine' CS.whil ?_ ?_ | with_reducible refine' CS.range ?_ ?_ ?_ ?_ ?_ | with_reducible refine' CS.forT ?_ ?_ ?_ ?_ | with_reducible refine' CS.forN ?_ ?_ ?_ | with_reducible refine' CS.raise ?_ | with_reducible refine' CS.tryE ?_ ?_
      | with_reducible refine' CE.str ?_ | with_reducible refine' CE.const ?_ | with_reducible refine' CE.andE ?_ | with_reducible refine' CE.orE ?_ | with_reducible refine' CE.notE ?_ | with_reducible exact CE.neg | with_reducible refine' CE.ite ?_ ?_ ?_ | with_reducible refine' CE.bin ?_ ?_ ?_ | with_reducible refine' CE.cmp ?_ ?_ ?_ | with_reducible refine' CE.cmp2 ?_ ?_ ?_ ?_ ?_
      | with_reducible refine' CE.meth ?_ ?_ ?_ ?_ | with_reducible refine' CE.call ?_ ?_ | with_reducible refine' CE.atA ?_ ?_ | with_reducible refine' CE.data ?_ ?_ | with_reducible refine' CE.slice ?_ ?_ ?_ | with_reducible refine' CE.sub ?_ ?_ | with_reducible refine' CE.tup ?_ | with_reducible refine' CE.list ?_ | with_reducible refine' CE.comp ?_ ?_ ?_ | with_reducible refine' CE.compT ?_ ?_ ?_ ?_
      | first
        | ((with_reducible show CE _ _ _ (.Name _ _) _); first
            | (refine' CE.var ?va ?vb; (case va => kernel_rfl); (case vb => exact rfl))
            | ((with_reducible refine' CE.globR ?va ?vb ?vc); (case va => kernel_rfl); (case vb => kernel_rfl); (case vc => decreasing_trivial_pre_omega))
            | ((with_reducible refine' CE.globB ?va ?vb ?vc); (case va => kernel_rfl); (case vb => kernel_rfl); (case vc => decreasing_trivial_pre_omega))
            | ((with_reducible refine' CE.globT ?va ?vb ?vc); (case va => kernel_rfl); (case vb => kernel_rfl); (case vc => decreasing_trivial_pre_omega))
            | ((with_reducible refine' CE.globI ?va ?vb ?vc); (case va => kernel_rfl); (case vb => kernel_rfl); (case vc => decreasing_trivial_pre_omega))
            | ((with_reducible refine' CE.globY ?va ?vb ?vc); (case va => kernel_rfl); (case vb => kernel_rfl); (case vc => decreasing_trivial_pre_omega)))
        | ((with_reducible show locIx _ _ _ = _); exact rfl)
        | ((with_reducible show globV _ _ = _); decreasing_trivial_pre_omega)
        | ((with_reducible show cMeth _ _ = _); with_reducible (first | exact w_space _ | exact w_need _ | exact w_skip _ | exact w_fault _ | exact w_peek _ | exact w_astring _ | exact w_string_or _ | exact w_string _ | exact w_quoted _ | exact w_literal _ | exact w_run _ | exact w_split _ | exact w_lower _ | exact w_upper _ | exact w_pop _ | exact w_index _ | exact w_append _ | exact w_join _))
        | ((with_reducible show Array.toList _ = _); first | (with_reducible (first | exact cp_0 | exact cp_1 | exact cp_2 | exact cp_3 | exact cp_4 | exact cp_5 | exact cp_6 | exact cp_7 | exact cp_8 | exact cp_9 | exact cp_10 | exact cp_11 | exact cp_12 | exact cp_13 | exact cp_14)) | exact rfl)
        | ((with_reducible show cConst _ = _); exact rfl)
        | ((with_reducible show cBin _ = _); exact rfl)
        | ((with_reducible show cCmp _ = _); exact rfl)
        | kernel_rfl
        | decide)
    all_goals decide

noncomputable def F362 : {f : Fn // ∀ P, CF (KP P) 362 f} := by
  refine ⟨⟨?np, ?nl, ?b⟩, fun P => ⟨?oc, ?od, ?fd, ?sl, ?bd, ?h1, ?h2, ?h3, ?h4, ?h5, ?h6⟩⟩
  case h1 => with_unfolding_all rfl
  case h2 => exact rfl
  case h3 => kernel_rfl
  case h5 => exact rfl
  case h6 => exact rfl
  case h4 =>
    dsimp only [List.map_cons, List.map_nil]
    repeat' (first
      | with_reducible exact All2.nil | with_reducible exact Opt2.none | with_reducible exact CT.nil | with_reducible exact CH.nil | with_reducible exact CN.none
      | with_reducible refine' All2.cons ?_ ?_ | with_reducible refine' Opt2.some ?_ | with_reducible refine' CT.cons ?_ ?_ | with_reducible refine' CH.cons ?_ ?_ ?_ ?_ ?_ ?_ | with_reducible refine' CN.some ?_
      | with_reducible refine' CU.atF ?_ ?_ ?_ | with_reducible refine' CU.none ?_ | with_reducible refine' CU.raise ?_ ?_ ?_ ?_ ?_
      | with_reducible refine' CS.asgC ?_ ?_ ?_ | with_reducible refine' CS.asgAt ?_ ?_ | with_reducible refine' CS.asgT ?_ ?_ ?_ | with_reducible refine' CS.asg ?_ ?_ ?_ | with_reducible refine' CS.expr ?_ ?_ | with_reducible refine' CS.ret ?_ | with_reducible refine' CS.ite ?_ ?_ ?_ | with_reducible refine' CS.whil ?_ ?_ | with_reducible refine' CS.range ?_ ?_ ?_ ?_ ?_ | with_reducible refine' CS.forT ?_ ?_ ?_ ?_ | with_reducible refine' CS.forN ?_ ?_ ?_ | with_reducible refine' CS.raise ?_ | with_reducible refine' CS.tryE ?_ ?_
      | with_reducible refine' CE.str ?_ | with_reducible refine' CE.const ?_ | with_reducible refine' CE.andE ?_ | with_reducible refine' CE.orE ?_ | with_reducible refine' CE.notE ?_ | with_reducible exact CE.neg | with_reducible refine' CE.ite ?_ ?_ ?_ | with_reducible refine' CE.bin ?_ ?_ ?_ | with_reducible refine' CE.cmp ?_ ?_ ?_ | with_reducible refine' CE.cmp2 ?_ ?_ ?_ ?_ ?_
      | with_reducible refine' CE.meth ?_ ?_ ?_ ?_ | with_reducible refine' CE.call ?_ ?_ | with_reducible refine' CE.atA ?_ ?_ | with_reducible refine' CE.data ?_ ?_ | with_reducible refine' CE.slice ?_ ?_ ?_ | with_reducible refine' CE.sub ?_ ?_ | with_reducible refine' CE.tup ?_ | with_reducible refine' CE.list ?_ | with_reducible refine' CE.comp ?_ ?_ ?_ | with_reducible refine' CE.compT ?_ ?_ ?_ ?_
      | first
        | ((with_reducible show CE _ _ _ (.Name _ _) _); first
            | (refine' CE.var ?va ?vb; (case va => kernel_rfl); (case vb => exact rfl))
            | ((with_reducible refine' CE.globR ?va ?vb ?vc); (case va => kernel_rfl); (case vb => kernel_rfl); (case vc => decreasing_trivial_pre_omega))
            | ((with_reducible refine' CE.globB ?va ?vb ?vc); (case va => kernel_rfl); (case vb => kernel_rfl); (case vc => decreasing_trivial_pre_omega))
            | ((with_reducible refine' CE.globT ?va ?vb ?vc); (case va => kernel_rfl); (case vb => kernel_rfl); (case vc => decreasing_trivial_pre_omega))
            | ((with_reducible refine' CE.globI ?va ?vb ?vc); (case va => kernel_rfl); (case vb => kernel_rfl); (case vc => decreasing_trivial_pre_omega))
            | ((with_reducible refine' CE.globY ?va ?vb ?vc); (case va => kernel_rfl); (case vb => kernel_rfl); (case vc => decreasing_trivial_pre_omega)))
        | ((with_reducible show locIx _ _ _ = _); exact rfl)
        | ((with_reducible show globV _ _ = _); decreasing_trivial_pre_omega)
        | ((with_reducible show cMeth _ _ = _); with_reducible (first | exact w_space _ | exact w_need _ | exact w_skip _ | exact w_fault _ | exact w_peek _ | exact w_astring _ | exact w_string_or _ | exact w_string _ | exact w_quoted _ | exact w_literal _ | exact w_run _ | exact w_split _ | exact w_lower _ | exact w_upper _ | exact w_pop _ | exact w_index _ | exact w_append _ | exact w_join _))
        | ((with_reducible show Array.toList _ = _); first | (with_reducible (first | exact cp_0 | exact cp_1 | exact cp_2 | exact cp_3 | exact cp_4 | exact cp_5 | exact cp_6 | exact cp_7 | exact cp_8 | exact cp_9 | exact cp_10 | exact cp_11 | exact cp_12 | exact cp_13 | exact cp_14)) | exact rfl)
        | ((with_reducible show cConst _ = _); exact rfl)
        | ((with_reducible show cBin _ = _); exact rfl)
        | ((with_reducible show cCmp _ = _); exact rfl)
        | kernel_rfl
        | decide)
    all_goals decide

noncomputable def FTl : List (Addr × Fn) := [(92, F92.1), (102, F102.1), (112, F112.1), (120, F120.1), (127, F127.1), (134, F134.1), (139, F139.1), (144, F144.1), (151, F151.1), (158, F158.1), (165, F165.1), (200, F200.1), (207, F207.1), (214, F214.1), (228, F228.1), (235, F235.1), (454, F454.1), (461, F461.1), (466, F466.1), (473, F473.1), (478, F478.1), (483, F483.1), (271, F271.1), (278, F278.1), (264, F264.1), (285, F285.1), (299, F299.1), (257, F257.1), (369, F369.1), (376, F376.1), (383, F383.1), (355, F355.1), (362, F362.1)]
noncomputable def FT (a : Addr) : Option Fn := FTl.lookup a
theorem lookup_mem {β : Type} : ∀ {l : List (Addr × β)} {a : Addr} {b : β}, l.lookup a = some b → (a, b) ∈ l
  | [], _, _, h => nomatch h
  | (x, y) :: l, a, b, h => by
    rw [List.lookup_cons] at h
    split at h
    · rename_i e
      cases h
      rw [eq_of_beq e]; exact .head _
    · exact .tail _ (lookup_mem h)
theorem FT_cons {P : Params} {l : List (Addr × Fn)} {a : Addr} {f : Fn} (h : CF (KP P) a f) (r : ∀ x ∈ l, CF (KP P) x.1 x.2) : ∀ x ∈ (a, f) :: l, CF (KP P) x.1 x.2 := List.forall_mem_cons.mpr ⟨h, r⟩
theorem FT_ok (P : Params) (a : Addr) (f : Fn) (h : FT a = some f) : CF (KP P) a f :=
  (show ∀ x ∈ FTl, CF (KP P) x.1 x.2 from FT_cons (F92.2 P) <| FT_cons (F102.2 P) <| FT_cons (F112.2 P) <| FT_cons (F120.2 P) <| FT_cons (F127.2 P) <| FT_cons (F134.2 P) <| FT_cons (F139.2 P) <| FT_cons (F144.2 P) <| FT_cons (F151.2 P) <| FT_cons (F158.2 P) <| FT_cons (F165.2 P) <| FT_cons (F200.2 P) <| FT_cons (F207.2 P) <| FT_cons (F214.2 P) <| FT_cons (F228.2 P) <| FT_cons (F235.2 P) <| FT_cons (F454.2 P) <| FT_cons (F461.2 P) <| FT_cons (F466.2 P) <| FT_cons (F473.2 P) <| FT_cons (F478.2 P) <| FT_cons (F483.2 P) <| FT_cons (F271.2 P) <| FT_cons (F278.2 P) <| FT_cons (F264.2 P) <| FT_cons (F285.2 P) <| FT_cons (F299.2 P) <| FT_cons (F257.2 P) <| FT_cons (F369.2 P) <| FT_cons (F376.2 P) <| FT_cons (F383.2 P) <| FT_cons (F355.2 P) <| FT_cons (F362.2 P) <| fun _ h => nomatch h) (a, f) (lookup_mem h)
theorem FT92 : FT 92 = some F92.1 := rfl
theorem FT102 : FT 102 = some F102.1 := rfl
theorem FT112 : FT 112 = some F112.1 := rfl
theorem FT120 : FT 120 = some F120.1 := rfl
theorem FT127 : FT 127 = some F127.1 := rfl
theorem FT134 : FT 134 = some F134.1 := rfl
theorem FT139 : FT 139 = some F139.1 := rfl
theorem FT144 : FT 144 = some F144.1 := rfl
theorem FT151 : FT 151 = some F151.1 := rfl
theorem FT158 : FT 158 = some F158.1 := rfl
theorem FT165 : FT 165 = some F165.1 := rfl
theorem FT200 : FT 200 = some F200.1 := rfl
theorem FT207 : FT 207 = some F207.1 := rfl
theorem FT214 : FT 214 = some F214.1 := rfl
theorem FT228 : FT 228 = some F228.1 := rfl
theorem FT235 : FT 235 = some F235.1 := rfl
theorem FT454 : FT 454 = some F454.1 := rfl
theorem FT461 : FT 461 = some F461.1 := rfl
theorem FT466 : FT 466 = some F466.1 := rfl
theorem FT473 : FT 473 = some F473.1 := rfl
theorem FT478 : FT 478 = some F478.1 := rfl
theorem FT483 : FT 483 = some F483.1 := rfl
theorem FT271 : FT 271 = some F271.1 := rfl
theorem FT278 : FT 278 = some F278.1 := rfl
theorem FT264 : FT 264 = some F264.1 := rfl
theorem FT285 : FT 285 = some F285.1 := rfl
theorem FT299 : FT 299 = some F299.1 := rfl
theorem FT369 : FT 369 = some F369.1 := rfl
theorem FT376 : FT 376 = some F376.1 := rfl
theorem FT383 : FT 383 = some F383.1 := rfl
theorem FT355 : FT 355 = some F355.1 := rfl
theorem FT362 : FT 362 = some F362.1 := rfl
end Mine
end

section
open PySem PySem.W PyProof.Rows
set_option maxRecDepth 100000
namespace Mine
section
variable {α β : Type} {m : Lo} {σ : List TO}
theorem bnd_of {x : R α} {f : α → List TO → R β} {a : α} {r : R β} (h : x = some (.ok a, σ)) (h2 : f a σ = r) : bnd x f = r := by rw [h]; exact h2
theorem opt_of {x : Option α} {a : α} (h : x = some a) : opt x σ = some (.ok a, σ) := by rw [h]; rfl
theorem stm_of {x : R α} {F : α → List TO → RS} {a : α} {r : RS} (h : x = some (.ok a, σ)) (h2 : F a σ = r) : stm x m F = r := by rw [h]; exact h2
theorem stm_exc' {x : R α} {F : α → List TO → RS} {i : Nat} (h : x = some (.exc i, σ)) : stm x m F = some (.exc i, m, σ) := by rw [h]; rfl
end
noncomputable def excC (a : Addr) : Bool := a == 59 || a == 71 || a == 83
noncomputable def notC (a : Addr) : Bool := !(a == wireC || excC a)
noncomputable def plainM : MK → Bool
  | .own _ _ => false
  | _ => true
noncomputable def ixOk (i : Int) : Bool := decide (0 ≤ i) && decide (i < 100000)
theorem excC_of {a : Addr} (h : excC a = true) : a = 59 ∨ a = 71 ∨ a = 83 := by simpa [excC, or_assoc] using h
theorem notC_of {a : Addr} (h : notC a = true) : ¬ (a = wireC ∨ a = 59 ∨ a = 71 ∨ a = 83) := by simpa [notC, excC, not_or, and_assoc] using h
theorem isC_of {a : Addr} (h : notC a = false) : a = wireC ∨ a = 59 ∨ a = 71 ∨ a = 83 := by
  rw [notC, Bool.not_eq_false', Bool.or_eq_true] at h
  rcases h with h | h
  · exact .inl (eq_of_beq h)
  · exact .inr (excC_of h)
theorem ixOk_of {i : Int} (h : ixOk i = true) : 0 ≤ i ∧ i < 100000 := by simpa [ixOk] using h
theorem le_of {a b c : Nat} (h : a ≤ b) (h2 : Nat.ble b c = true) : a ≤ c := Nat.le_trans h (Nat.le_of_ble_eq_true h2)
theorem fuel_of {a c k : Nat} (h : a + c ≤ k) : ∃ j, k = j + c + a := let ⟨j, e⟩ := Nat.exists_eq_add_of_le h; ⟨j, by rw [e, Nat.add_comm, Nat.add_comm a c, Nat.add_assoc]⟩
theorem le_fuel {a b c d k : Nat} (h : a ≤ b) (h2 : Nat.ble (b + c) d = true) (h3 : d ≤ k) : a + c ≤ k := Nat.le_trans (Nat.add_le_add_right h c) (Nat.le_trans (Nat.le_of_ble_eq_true h2) h3)
theorem fuel_sw (k c l : Nat) : k + c + l + 1 = (k + l + 1) + c := by rw [Nat.add_right_comm k c, Nat.add_right_comm _ c 1]
theorem fle {a b n : Nat} (h : Nat.ble a b = true) : a ≤ n + b := Nat.le_trans (Nat.le_of_ble_eq_true h) (Nat.le_add_left _ _)
section
variable {K : Frag} {FT : Addr → Option Fn} {d n : Nat} {m m1 : Lo} {σ σ1 σ2 σ3 : List TO}
theorem rConst {v : AV} : evE K FT (n + 1) d m (.const v) σ = some (.ok v, σ) := rfl
theorem rVar {k : Nat} {v : AV} (h : m[k]? = some (some v)) : evE K FT (n + 1) d m (.var k) σ = some (.ok v, σ) := evE_var.trans (by rw [h]; rfl)
theorem notT : (!false) = true := rfl
theorem notF : (!true) = false := rfl
theorem iT {A B : Prop} (h : A) : cond true A B := h
theorem iF {A B : Prop} (h : B) : cond false A B := h
theorem goT {α : Type} {x y r : α} (h : x = r) : (if true = true then x else y) = r := h
theorem goF {α : Type} {x y r : α} (h : x = r) : (if false = false then x else y) = r := h
theorem spT {x : R Bool} : (if false = true then x else some (.ok (!true), σ)) = some (.ok false, σ) := rfl
theorem spF {x : R Bool} : (if true = false then x else some (.ok (!false), σ)) = some (.ok true, σ) := rfl
theorem rNot {e : IE} {b c : Bool} (h : evT K FT n d m e σ = some (.ok b, σ1)) (hb : (!b) = c) : evE K FT (n + 1) d m (.not e) σ = some (.ok (.bool c), σ1) := evE_not.trans (bnd_of h (by rw [← hb]; rfl))
theorem rIte {c x y : IE} {b : Bool} {r : R AV} (h : evT K FT n d m c σ = some (.ok b, σ1)) (h2 : cond b (evE K FT n d m x σ1 = r) (evE K FT n d m y σ1 = r)) : evE K FT (n + 1) d m (.ite c x y) σ = r := evE_ite.trans (bnd_of h (by cases b <;> exact h2))
theorem rAll {a b : Bool} {e : IE} {es : List IE} {r : R Bool} (h : evT K FT n d m e σ = some (.ok b, σ1)) (h2 : (if b = a then evAll K FT n d m a es σ1 else some (.ok (!a), σ1)) = r) : evAll K FT (n + 1) d m a (e :: es) σ = r := evAll_cons.trans (bnd_of h h2)
theorem rAnd {es : List IE} {b : Bool} (h : evAll K FT n d m true es σ = some (.ok b, σ1)) : evE K FT (n + 1) d m (.and es) σ = some (.ok (.bool b), σ1) := evE_and.trans (bnd_of h rfl)
theorem rOr {es : List IE} {b : Bool} (h : evAll K FT n d m false es σ = some (.ok b, σ1)) : evE K FT (n + 1) d m (.or es) σ = some (.ok (.bool b), σ1) := evE_or.trans (bnd_of h rfl)
theorem rAllNil {a : Bool} : evAll K FT (n + 1) d m a [] σ = some (.ok a, σ) := rfl
theorem rT {e : IE} {b : Bool} (h : evE K FT n d m e σ = some (.ok (.bool b), σ1)) : evT K FT (n + 1) d m e σ = some (.ok b, σ1) := evT_s.trans (bnd_of h rfl)
theorem rBin {k : BK} {a b : IE} {x y z : AV} (h1 : evE K FT n d m a σ = some (.ok x, σ1)) (h2 : evE K FT n d m b σ1 = some (.ok y, σ2)) (h3 : binA k x y = some z) : evE K FT (n + 1) d m (.bin k a b) σ = some (.ok z, σ2) := evE_bin.trans (bnd_of h1 (bnd_of h2 (opt_of h3)))
theorem rCmp {k : CK} {a b : IE} {x y : AV} {c : Bool} (h1 : evE K FT n d m a σ = some (.ok x, σ1)) (h2 : evE K FT n d m b σ1 = some (.ok y, σ2)) (h3 : cmpA K σ2 k x y = some c) : evE K FT (n + 1) d m (.cmp k a b) σ = some (.ok (.bool c), σ2) := evE_cmp.trans (bnd_of h1 (bnd_of h2 (by rw [h3]; rfl)))
theorem rCmp2F {k k' : CK} {a b c : IE} {x y : AV} (h1 : evE K FT n d m a σ = some (.ok x, σ1)) (h2 : evE K FT n d m b σ1 = some (.ok y, σ2)) (h3 : cmpA K σ2 k x y = some false) : evE K FT (n + 1) d m (.cmp2 k k' a b c) σ = some (.ok (.bool false), σ2) := evE_cmp2.trans (bnd_of h1 (bnd_of h2 (by rw [h3]; rfl)))
theorem rCmp2T {k k' : CK} {a b c : IE} {x y z : AV} {t : Bool} (h1 : evE K FT n d m a σ = some (.ok x, σ1)) (h2 : evE K FT n d m b σ1 = some (.ok y, σ2)) (h3 : cmpA K σ2 k x y = some true) (h4 : evE K FT n d m c σ2 = some (.ok z, σ3)) (h5 : cmpA K σ3 k' y z = some t) : evE K FT (n + 1) d m (.cmp2 k k' a b c) σ = some (.ok (.bool t), σ3) := evE_cmp2.trans (bnd_of h1 (bnd_of h2 (by rw [h3]; exact bnd_of h4 (by rw [h5]; rfl))))
theorem rEsNil : evEs K FT (n + 1) d m [] σ = some (.ok [], σ) := rfl
theorem rEsCons {e : IE} {es : List IE} {v : AV} {vs : List AV} (h1 : evE K FT n d m e σ = some (.ok v, σ1)) (h2 : evEs K FT n d m es σ1 = some (.ok vs, σ2)) : evEs K FT (n + 1) d m (e :: es) σ = some (.ok (v :: vs), σ2) := evEs_cons.trans (bnd_of h1 (bnd_of h2 rfl))
theorem rONone : evO K FT (n + 1) d m none σ = some (.ok none, σ) := rfl
theorem rOSome {e : IE} {v : AV} (h : evE K FT n d m e σ = some (.ok v, σ1)) : evO K FT (n + 1) d m (some e) σ = some (.ok (some v), σ1) := evO_some.trans (bnd_of h rfl)
theorem rCallB {as : List IE} {vs : List AV} {b : String} {r : R AV} (h1 : evEs K FT (n + 1) d m as σ = some (.ok vs, σ1)) (h2 : callB σ1 (.builtin b) vs = r) : evE K FT (n + 2) d m (.call (.const (.val (.builtin b))) as) σ = r := evE_call.trans (bnd_of rConst (bnd_of h1 (evCall_b.trans h2)))
theorem rCallY {as : List IE} {vs : List AV} {b : String} {r : R AV} (h1 : evEs K FT (n + 1) d m as σ = some (.ok vs, σ1)) (h2 : callB σ1 (.type b) vs = r) : evE K FT (n + 2) d m (.call (.const (.val (.type b))) as) σ = r := evE_call.trans (bnd_of rConst (bnd_of h1 (evCall_t.trans h2)))
theorem rCallC {as : List IE} {vs : List AV} {a : Addr} {r : R AV} (ha : notC a = false) (h1 : evEs K FT (n + 1) d m as σ = some (.ok vs, σ1)) (h2 : callC σ1 a vs = r) : evE K FT (n + 2) d m (.call (.const (.val (.ref a))) as) σ = r := evE_call.trans (bnd_of rConst (bnd_of h1 (evCall_r.trans ((if_pos (isC_of ha)).trans h2))))
theorem rCallF {as : List IE} {vs : List AV} {a : Addr} {r : R AV} (ha : notC a = true) (h1 : evEs K FT (n + 1) d m as σ = some (.ok vs, σ1)) (h2 : evFn K FT n d a vs σ1 = r) : evE K FT (n + 2) d m (.call (.const (.val (.ref a))) as) σ = r := evE_call.trans (bnd_of rConst (bnd_of h1 (evCall_r.trans ((if_neg (notC_of ha)).trans h2))))
theorem rCallV {k : Nat} {as : List IE} {vs : List AV} {a : Addr} {r : R AV} (hk : m[k]? = some (some (.val (.ref a)))) (ha : notC a = true) (h1 : evEs K FT (n + 1) d m as σ = some (.ok vs, σ1)) (h2 : evFn K FT n d a vs σ1 = r) : evE K FT (n + 2) d m (.call (.var k) as) σ = r := evE_call.trans (bnd_of (rVar hk) (bnd_of h1 (evCall_r.trans ((if_neg (notC_of ha)).trans h2))))
theorem rOwn {s : Str} {f : Addr} {o : IE} {as : List IE} {v : AV} {vs : List AV} {r : R AV} (h1 : evE K FT n d m o σ = some (.ok v, σ1)) (h2 : evEs K FT n d m as σ1 = some (.ok vs, σ2)) (hk : kindT σ1 v = 4) (h3 : evFn K FT n d f (v :: vs) σ2 = r) : evE K FT (n + 1) d m (.meth (.own s f) o as) σ = r := evE_meth.trans (bnd_of h1 (by rw [h2]; exact (if_pos hk).trans h3))
theorem plain_match {α : Type} {k : MK} {X : Str → Addr → α} {Y : MK → α} : plainM k = true → (match k with
    | .own s f => X s f
    | k => Y k) = Y k := by cases k <;> first | exact fun _ => rfl | exact fun h => nomatch h
theorem rMeth {k : MK} {o : IE} {as : List IE} {v : AV} {vs : List AV} {r : R AV} (hk : plainM k = true) (h1 : evE K FT n d m o σ = some (.ok v, σ1)) (h2 : evEs K FT n d m as σ1 = some (.ok vs, σ2)) (hq : kindT σ1 v = kindT σ2 v) (h3 : methB K σ2 k v vs = r) : evE K FT (n + 1) d m (.meth k o as) σ = r := evE_meth.trans (bnd_of h1 (by rw [h2]; exact (plain_match (X := fun _ f => if kindT σ1 v = 4 then evFn K FT n d f (v :: vs) σ2 else none) (Y := fun k => if kindT σ1 v = kindT σ2 v then methB K σ2 k v vs else none) hk).trans ((if_pos hq).trans h3)))
theorem rAt {o : IE} {i : Nat} {b : List UInt8} {a : Int} (h : evE K FT n d m o σ = some (.ok (.wire i), σ1)) (h2 : σ1[i]? = some (.wire b a)) : evE K FT (n + 1) d m (.at o) σ = some (.ok (.int a), σ1) := evE_at.trans (bnd_of h (by dsimp only; rw [h2]; rfl))
theorem rData {o : IE} {i : Nat} {b : List UInt8} {a : Int} (h : evE K FT n d m o σ = some (.ok (.wire i), σ1)) (h2 : σ1[i]? = some (.wire b a)) : evE K FT (n + 1) d m (.data o) σ = some (.ok (.bytes b), σ1) := evE_data.trans (bnd_of h (by dsimp only; rw [h2]; rfl))
theorem rSub {o i : IE} {x y z : AV} (h1 : evE K FT n d m o σ = some (.ok x, σ1)) (h2 : evE K FT n d m i σ1 = some (.ok y, σ2)) (h3 : subA K σ2 x y = some z) : evE K FT (n + 1) d m (.sub o i) σ = some (.ok z, σ2) := evE_sub.trans (bnd_of h1 (bnd_of h2 (opt_of h3)))
theorem rSlice {o : IE} {lo hi : Option IE} {x : AV} {l h : Option AV} {r : R AV} (h1 : evE K FT n d m o σ = some (.ok x, σ1)) (h2 : evO K FT n d m lo σ1 = some (.ok l, σ2)) (h3 : evO K FT n d m hi σ2 = some (.ok h, σ3)) (h4 : sliceA σ3 x l h = r) : evE K FT (n + 1) d m (.slice o lo hi) σ = r := evE_slice.trans (bnd_of h1 (bnd_of h2 (bnd_of h3 h4)))
theorem rTup {es : List IE} {vs : List AV} (h : evEs K FT n d m es σ = some (.ok vs, σ1)) (h2 : Nat.ble vs.length 100 = true) : evE K FT (n + 1) d m (.tup es) σ = some (.ok (.tup vs), σ1) := evE_tup.trans (bnd_of h (if_pos (Nat.le_of_ble_eq_true h2)))
theorem rList {es : List IE} {vs : List AV} (h : evEs K FT n d m es σ = some (.ok vs, σ1)) (h2 : (AV.frees vs && vs.length ≤ 100) = true) : evE K FT (n + 1) d m (.list es) σ = some (.ok (.loc σ1.length), σ1 ++ [.list vs]) := evE_list.trans (bnd_of h (if_pos h2))
theorem rComp {it el : IE} {t : Option IE} {o : AV} {vs us : List AV} (h : evE K FT n d m it σ = some (.ok o, σ1)) (h2 : iterA K σ1 o = some vs) (h3 : evComp K FT n d el t vs σ1 = some (.ok us, σ2)) (h4 : AV.frees us = true) (h5 : us.length ≤ 100000) : evE K FT (n + 1) d m (.comp it el t) σ = some (.ok (.loc σ2.length), σ2 ++ [.list us]) := evE_comp.trans (bnd_of h (by rw [h2]; exact bnd_of h3 (if_pos (by rw [h4, Bool.true_and, decide_eq_true_eq]; exact h5))))
section
variable {Q : RS → Prop} {s : IS} {l : List IS}
theorem bStep (h : evS K FT n d s m σ = some (.nxt, m1, σ1)) (h2 : Q (evSs K FT n d l m1 σ1)) : Q (evSs K FT (n + 1) d (s :: l) m σ) := by rw [evSs_cons, h]; exact h2
theorem bOut {x : RS} (h : evS K FT n d s m σ = x) (hx : ∀ m σ, x ≠ some (.nxt, m, σ)) (h2 : Q x) : Q (evSs K FT (n + 1) d (s :: l) m σ) := by
  rw [evSs_cons, h]
  rcases x with _ | ⟨_ | _ | _, m, σ⟩
  · exact h2
  · exact absurd rfl (hx _ _)
  · exact h2
  · exact h2
theorem bAsg {k : Nat} {e : IE} {v : AV} (h : evE K FT n d m e σ = some (.ok v, σ1)) (h2 : Q (evSs K FT (n + 1) d l (m.set k (some v)) σ1)) : Q (evSs K FT (n + 2) d (.asg k e :: l) m σ) := bStep (evS_asg.trans (stm_of h rfl)) h2
theorem bAsgC {k : Nat} {it el : IE} {t : Option IE} {v : AV} (h : evE K FT n d m (.comp it el t) σ = some (.ok v, σ1)) (h2 : Q (evSs K FT (n + 1) d l (m.set k (some v)) σ1)) : Q (evSs K FT (n + 2) d (.asgC k it el t :: l) m σ) := bStep (evS_asgC.trans (stm_of h rfl)) h2
theorem bAsgT {ks : List Nat} {es : List IE} {vs : List AV} (h : evEs K FT n d m es σ = some (.ok vs, σ1)) (h1 : putAll ks.reverse vs.reverse m = some m1) (h2 : Q (evSs K FT (n + 1) d l m1 σ1)) : Q (evSs K FT (n + 2) d (.asgT ks es :: l) m σ) := bStep (evS_asgT.trans (stm_of h (by rw [h1]))) h2
theorem bAsgAt {o e : IE} {a c : Int} {i : Nat} {b : List UInt8} (h : evE K FT n d m e σ = some (.ok (.int a), σ1)) (h1 : evE K FT n d m o σ1 = some (.ok (.wire i), σ2)) (hi : σ2[i]? = some (.wire b c)) (hs : σ2.set i (.wire b a) = σ3) (h2 : Q (evSs K FT (n + 1) d l m σ3)) : Q (evSs K FT (n + 2) d (.asgAt o e :: l) m σ) := bStep (by rw [evS_asgAt, h]; dsimp only; rw [h1]; dsimp only; rw [hi, ← hs]) h2
theorem bExprN {e : IE} (h : evE K FT n d m e σ = some (.ok .none, σ1)) (h2 : Q (evSs K FT (n + 1) d l m σ1)) : Q (evSs K FT (n + 2) d (.expr e :: l) m σ) := bStep (evS_expr.trans (stm_of h rfl)) h2
theorem bExprB {e : IE} {b : Bool} (h : evE K FT n d m e σ = some (.ok (.bool b), σ1)) (h2 : Q (evSs K FT (n + 1) d l m σ1)) : Q (evSs K FT (n + 2) d (.expr e :: l) m σ) := bStep (evS_expr.trans (stm_of h rfl)) h2
theorem bIf0 {c : IE} {a : List IS} (h : evT K FT (n + 1) d m c σ = some (.ok false, σ1)) (h2 : Q (evSs K FT (n + 2) d l m σ1)) : Q (evSs K FT (n + 3) d (.ite c a [] :: l) m σ) := bStep (evS_ite.trans (stm_of h rfl)) h2
end
theorem evSs_ret {e : IE} {v : AV} {l : List IS} (h : evE K FT n d m e σ = some (.ok v, σ1)) : evSs K FT (n + 2) d (.ret e :: l) m σ = some (.ret v, m, σ1) := by rw [evSs_cons, evS_ret, stm_of h rfl]
theorem evSs_retX {e : IE} {i : Nat} {l : List IS} (h : evE K FT n d m e σ = some (.exc i, σ1)) : evSs K FT (n + 2) d (.ret e :: l) m σ = some (.exc i, m, σ1) := by rw [evSs_cons, evS_ret, stm_exc' h]
theorem evSs_raise {e : IE} {i : Nat} {C : Addr} {a : Int} {l : List IS} (h : evE K FT n d m e σ = some (.ok (.loc i), σ1)) (hi : σ1[i]? = some (.exc C a .fresh)) (hC : excC C = true) : evSs K FT (n + 2) d (.raise e :: l) m σ = some (.exc i, m, σ1.set i (.exc C a .bare)) := by rw [evSs_cons, evS_raise, h]; dsimp only; rw [hi]; dsimp only; rw [if_pos (excC_of hC)]

theorem fn_of {a b c : Nat} (h : (a == b && Nat.ble b c) = true) : a = b ∧ b ≤ c := by
  rw [Bool.and_eq_true] at h
  exact ⟨eq_of_beq h.1, Nat.le_of_ble_eq_true h.2⟩
noncomputable def RetP (v : AV) (k : Nat) (τ : List TO) (r : RS) : Prop := ∃ m1 σ1, r = some (.ret v, m1, σ1) ∧ σ1.take k = τ
noncomputable def ExcP (σ : List TO) (C : Addr) (a : Int) (r : RS) : Prop := ∃ m1 ext j, r = some (.exc (σ.length + j), m1, σ ++ ext) ∧ ext[j]? = some (.exc C a .bare)
noncomputable def NxtE (m1 : Lo) (σ1 : List TO) (r : RS) : Prop := r = some (.nxt, m1, σ1)
noncomputable def NxtP (k : Nat) (τ : List TO) (r : RS) : Prop := ∃ m1 σ1, r = some (.nxt, m1, σ1) ∧ σ1.take k = τ
noncomputable def Raised (r : R AV) (σ : List TO) (C : Addr) (a : Int) : Prop := ∃ ext j, r = some (.exc (σ.length + j), σ ++ ext) ∧ ext[j]? = some (.exc C a .bare)
theorem bRet {e : IE} {v w : AV} {k : Nat} {τ : List TO} {l : List IS} (h : evE K FT n d m e σ = some (.ok v, σ1)) (hv : v = w) (ht : σ1.take k = τ) : RetP w k τ (evSs K FT (n + 2) d (.ret e :: l) m σ) := ⟨_, _, hv ▸ evSs_ret h, ht⟩
theorem bNxtE : NxtE m σ (evSs K FT (n + 1) d [] m σ) := rfl
theorem bNxt {k : Nat} {τ : List TO} (ht : σ.take k = τ) : NxtP k τ (evSs K FT (n + 1) d [] m σ) := ⟨_, _, rfl, ht⟩
section
variable {c : IE} {a b l : List IS} {Q : RS → Prop}
theorem bIfR {v : AV} {k : Nat} {τ : List TO} {t : Bool} (h : evT K FT (n + 1) d m c σ = some (.ok t, σ1)) (h2 : cond t (RetP v k τ (evSs K FT (n + 1) d a m σ1)) (RetP v k τ (evSs K FT (n + 2) d l m σ1))) : RetP v k τ (evSs K FT (n + 3) d (.ite c a [] :: l) m σ) := by
  cases t
  · exact bIf0 h h2
  obtain ⟨m1, σ2, h2, h3⟩ := h2
  exact bOut (evS_ite.trans (stm_of h h2)) (by intro m σ e; cases e) ⟨m1, σ2, rfl, h3⟩
theorem bIfX {τ : List TO} {C : Addr} {z : Int} {t : Bool} (h : evT K FT (n + 1) d m c σ = some (.ok t, σ1)) (h2 : cond t (ExcP τ C z (evSs K FT (n + 1) d a m σ1)) (ExcP τ C z (evSs K FT (n + 2) d l m σ1))) : ExcP τ C z (evSs K FT (n + 3) d (.ite c a [] :: l) m σ) := by
  cases t
  · exact bIf0 h h2
  obtain ⟨m1, ext, j, h2, h3⟩ := h2
  exact bOut (evS_ite.trans (stm_of h h2)) (by intro m σ e; cases e) ⟨m1, ext, j, rfl, h3⟩
end
theorem bRaise {e : IE} {s ext : List TO} {C : Addr} {z : Int} {l : List IS} (hC : excC C = true) (h : evE K FT n d m e σ = some (.ok (.loc (s ++ ext).length), (s ++ ext) ++ [.exc C z .fresh])) : ExcP s C z (evSs K FT (n + 2) d (.raise e :: l) m σ) :=
  ⟨m, ext ++ [.exc C z .bare], ext.length, by rw [evSs_raise (a := z) (C := C) h (by simp) hC]; simp, by simp⟩
section
variable {a : Addr} {as : List AV} {np nl : Nat} {body : List IS}
theorem fRet {v : AV} {τ : List TO} (h0 : FT a = some ⟨np, nl, body⟩) (h1 : (as.length == np && Nat.ble np nl) = true) (hf : v.free = true) (h : RetP v σ.length τ (evSs K FT n d body (as.map some ++ List.replicate (nl - np) none) σ)) : evFn K FT (n + 1) (d + 1) a as σ = some (.ok v, τ) := by
  obtain ⟨m1, σ1, h, rfl⟩ := h
  rw [evFn_s, h0]; dsimp only; rw [if_pos (fn_of h1), h]; dsimp only; rw [if_pos hf]
theorem fNxt {τ : List TO} (h0 : FT a = some ⟨np, nl, body⟩) (h1 : (as.length == np && Nat.ble np nl) = true) (h : NxtP σ.length τ (evSs K FT n d body (as.map some ++ List.replicate (nl - np) none) σ)) : evFn K FT (n + 1) (d + 1) a as σ = some (.ok .none, τ) := by
  obtain ⟨m1, σ1, h, rfl⟩ := h
  rw [evFn_s, h0]; dsimp only; rw [if_pos (fn_of h1), h]
theorem fX {i : Nat} (h0 : FT a = some ⟨np, nl, body⟩) (h1 : (as.length == np && Nat.ble np nl) = true) (h : evSs K FT n d body (as.map some ++ List.replicate (nl - np) none) σ = some (.exc i, m1, σ1)) : evFn K FT (n + 1) (d + 1) a as σ = some (.exc i, σ1) := by
  rw [evFn_s, h0]; dsimp only; rw [if_pos (fn_of h1), h]
theorem fExc {C : Addr} {z : Int} (h0 : FT a = some ⟨np, nl, body⟩) (h1 : (as.length == np && Nat.ble np nl) = true) (h : ExcP σ C z (evSs K FT n d body (as.map some ++ List.replicate (nl - np) none) σ)) : Raised (evFn K FT (n + 1) (d + 1) a as σ) σ C z := by
  obtain ⟨m1, ext, j, h, e⟩ := h
  refine ⟨ext, j, ?_, e⟩
  rw [evFn_s, h0]; dsimp only; rw [if_pos (fn_of h1), h]
end
end
section
variable {K : Frag} {σ : List TO} {a b : Int}
theorem dT {p : Prop} [Decidable p] (h : p) : some (decide p) = some true := by rw [decide_eq_true h]
theorem dF {p : Prop} [Decidable p] (h : ¬ p) : some (decide p) = some false := by rw [decide_eq_false h]
theorem eq_int {a b : Int} : eqA K σ (.int a) (.int b) = some (decide (a = b)) := rfl
theorem cEqT (h : a = b) : cmpA K σ .eq (.int a) (.int b) = some true := (eq_int (K := K) (σ := σ)).trans (dT h)
theorem cEqF (h : ¬ a = b) : cmpA K σ .eq (.int a) (.int b) = some false := (eq_int (K := K) (σ := σ)).trans (dF h)
theorem cNeT (h : ¬ a = b) : cmpA K σ .ne (.int a) (.int b) = some true := (congrArg (Option.map (!·)) (cEqF (K := K) (σ := σ) h)).trans rfl
theorem cNeF (h : a = b) : cmpA K σ .ne (.int a) (.int b) = some false := (congrArg (Option.map (!·)) (cEqT (K := K) (σ := σ) h)).trans rfl
theorem cLtT (h : a < b) : cmpA K σ .lt (.int a) (.int b) = some true := dT h
theorem cLtF (h : ¬ a < b) : cmpA K σ .lt (.int a) (.int b) = some false := dF h
theorem cLeT (h : a ≤ b) : cmpA K σ .le (.int a) (.int b) = some true := dT h
theorem cLeF (h : ¬ a ≤ b) : cmpA K σ .le (.int a) (.int b) = some false := dF h
theorem cGtT (h : b < a) : cmpA K σ .gt (.int a) (.int b) = some true := dT h
theorem cGtF (h : ¬ b < a) : cmpA K σ .gt (.int a) (.int b) = some false := dF h
theorem cGeT (h : b ≤ a) : cmpA K σ .ge (.int a) (.int b) = some true := dT h
theorem cGeF (h : ¬ b ≤ a) : cmpA K σ .ge (.int a) (.int b) = some false := dF h
theorem gEnd {l : List TO} {t : TO} : (l ++ [t])[l.length]? = some t := by simp
theorem gApp {l l' : List TO} {i : Nat} {t : TO} (h : l[i]? = some t) : (l ++ l')[i]? = some t := by rw [List.getElem?_append_left]; exact h; exact (List.getElem?_eq_some_iff.mp h).1
theorem gMid {l l' : List TO} {t : TO} : (l ++ t :: l')[l.length]? = some t := by simp
theorem gAt {l l' : List TO} {k : Nat} {t : TO} (h : l'[k]? = some t) : (l ++ l')[l.length + k]? = some t := by rw [List.getElem?_append_right (Nat.le_add_right _ _), Nat.add_sub_cancel_left]; exact h
theorem sMid {l l' : List TO} {t t' : TO} : (l ++ t :: l').set l.length t' = l ++ t' :: l' := by simp
theorem sEnd {l : List TO} {t t' : TO} : (l ++ [t]).set l.length t' = l ++ [t'] := by simp
theorem tk0 {l : List TO} : l.take l.length = l := List.take_length
theorem tk1 {l l' : List TO} : (l ++ l').take l.length = l := List.take_left
theorem tk2 {l l' k : List TO} : ((l ++ l') ++ k).take l.length = l := by rw [List.append_assoc]; exact List.take_left
theorem tk3 {l l' k j : List TO} : (((l ++ l') ++ k) ++ j).take l.length = l := by rw [List.append_assoc, List.append_assoc]; exact List.take_left
theorem oLenS {s : List Nat} (h : s.length ≤ 100000) : callB σ (.builtin "len") [.str s] = some (.ok (.int s.length), σ) := by unfold callB; rw [if_pos rfl]; exact if_pos h
theorem oLenB {s : List UInt8} (h : s.length ≤ 100000) : callB σ (.builtin "len") [.bytes s] = some (.ok (.int s.length), σ) := by unfold callB; rw [if_pos rfl]; exact if_pos h
theorem lst_eq {i : Nat} {vs : List AV} (hi : σ[i]? = some (.list vs)) : lstAt σ i = some vs := by unfold lstAt; rw [hi]
theorem oLenL {i : Nat} {vs : List AV} (hi : σ[i]? = some (.list vs)) (h : vs.length ≤ 100000) : callB σ (.builtin "len") [.loc i] = some (.ok (.int vs.length), σ) := by
  unfold callB; rw [if_pos rfl]
  show (lstAt σ i).bind _ = _
  rw [lst_eq hi]; exact if_pos h
theorem oOrd {c : Nat} : callB σ (.builtin "ord") [.str [c]] = some (.ok (.int c), σ) := rfl
theorem oBytB {b : List UInt8} : callB σ (.type "bytes") [.bytes b] = some (.ok (.bytes b), σ) := rfl
theorem oBytL {i : Nat} {vs : List AV} {v : AV} (hi : σ[i]? = some (.list vs)) (h : (intsOf vs).bind bytesOfInts = some v) : callB σ (.type "bytes") [.loc i] = some (.ok v, σ) := by
  unfold callB
  rw [if_neg (by simp), if_neg (by simp), if_neg (by simp), if_pos rfl]
  show bytB σ (.loc i) = _
  unfold bytB
  dsimp only
  rw [lst_eq hi]; exact opt_of h
theorem oBytR {i : Nat} {b : List UInt8} (hi : σ[i]? = some (.barr b)) (h : b.length ≤ 100000) : callB σ (.type "bytes") [.loc i] = some (.ok (.bytes b), σ) := by
  unfold callB
  rw [if_neg (by simp), if_neg (by simp), if_neg (by simp), if_pos rfl]
  show bytB σ (.loc i) = _
  unfold bytB
  dsimp only
  rw [show lstAt σ i = none by unfold lstAt; rw [hi]]
  dsimp only
  unfold barrAt
  rw [hi]; exact if_pos h
theorem oIntS {s : List Nat} (h : figs s = true) (h2 : s.length ≤ 100) : callB σ (.type "int") [.str s] = some (.ok (.int (figVal s)), σ) := by
  unfold callB
  rw [if_neg (by simp), if_neg (by simp), if_neg (by simp), if_neg (by simp), if_neg (by simp), if_pos rfl]; exact if_pos ⟨h, h2⟩
theorem sLoc {k : Nat} {i : Int} {vs : List AV} {z : AV} (h : σ[k]? = some (.list vs)) (h0 : ixOk i = true) (h2 : vs[i.toNat]? = some z) : subA K σ (.loc k) (.int i) = some z := by unfold subA; dsimp only; rw [h]; exact (if_pos (ixOk_of h0)).trans h2
theorem sTup {vs : List AV} {i : Int} {z : AV} (h0 : ixOk i = true) (h2 : vs[i.toNat]? = some z) : subA K σ (.tup vs) (.int i) = some z := (if_pos (ixOk_of h0)).trans h2
theorem sVal {v : Value} {vs : List AV} {i : Int} {z : AV} (h : tupItems K (.val v) = some vs) (h0 : ixOk i = true) (h2 : vs[i.toNat]? = some z) : subA K σ (.val v) (.int i) = some z := by unfold subA; dsimp only; rw [h]; exact (if_pos (ixOk_of h0)).trans h2
theorem sByt {b : List UInt8} {i : Int} {c : UInt8} (h0 : 0 ≤ i ∧ b.length ≤ 100000) (h2 : b[i.toNat]? = some c) : subA K σ (.bytes b) (.int i) = some (.int c.toNat) := (if_pos h0).trans (by rw [h2]; rfl)
theorem mSplit {s : List Nat} {c : Nat} (h : s.length ≤ 100000) : methB K σ .split (.str s) [.str [c]] = some (.ok (.loc σ.length), σ ++ [.list ((splitL c s).map .str)]) := if_pos h
theorem mLower {s : List Nat} (h : ascii s = true) (h2 : s.length ≤ 100000) : methB K σ .lower (.str s) [] = some (.ok (.str (s.map lowerN)), σ) := if_pos ⟨h, h2⟩
theorem mUpper {s : List Nat} (h : ascii s = true) (h2 : s.length ≤ 100000) : methB K σ .upper (.str s) [] = some (.ok (.str (s.map upperN)), σ) := if_pos ⟨h, h2⟩
theorem mPop {i : Nat} {v : AV} {vs : List AV} (hi : σ[i]? = some (.list (v :: vs))) (h : vs.length ≤ 100000) : methB K σ .pop (.loc i) [.int 0] = some (.ok v, σ.set i (.list vs)) := by
  show (lstAt σ i).bind _ = _
  unfold lstAt
  rw [hi]; exact if_pos h
theorem mIdxV {v : Value} {s : List Nat} {l : List (List Nat)} {k : Nat} (h : tupItems K (.val v) = some (l.map .str)) (h1 : strsOf (l.map .str) = some l) (h2 : l.findIdx? (· == s) = some k) : methB K σ .index (.val v) [.str s] = some (.ok (.int k), σ) := by
  show opt ((tupItems K (.val v)).bind (idx s)) σ = _
  rw [h]; show opt (idx s _) σ = _; unfold idx; rw [h1]; show opt (Option.map _ _) _ = _; rw [h2]; rfl
theorem mAppend {i : Nat} {c : Int} {b : List UInt8} (hi : σ[i]? = some (.barr b)) (h : 0 ≤ c ∧ c < 256 ∧ b.length ≤ 100000) : methB K σ .append (.loc i) [.int c] = some (.ok .none, σ.set i (.barr (b ++ [UInt8.ofNat c.toNat]))) := by
  show (barrAt σ i).bind _ = _
  unfold barrAt
  rw [hi]; exact if_pos h
theorem kWire {i : Nat} {b : List UInt8} {a : Int} (h : σ[i]? = some (.wire b a)) : kindT σ (.wire i) = 4 := by unfold kindT; dsimp only; rw [h]
theorem slB {b : List UInt8} {i j : Int} (h : 0 ≤ i ∧ 0 ≤ j ∧ b.length ≤ 100000) : sliceA σ (.bytes b) (some (.int i)) (some (.int j)) = some (.ok (.bytes ((b.take j.toNat).drop i.toNat)), σ) := by
  show opt (Option.map _ (sliceL b (some i) (some j))) σ = _
  rw [show sliceL b (some i) (some j) = _ from if_pos h]; rfl
theorem slS {b : List Nat} {i j : Int} (h : 0 ≤ i ∧ 0 ≤ j ∧ b.length ≤ 100000) : sliceA σ (.str b) (some (.int i)) (some (.int j)) = some (.ok (.str ((b.take j.toNat).drop i.toNat)), σ) := by
  show opt (Option.map _ (sliceL b (some i) (some j))) σ = _
  rw [show sliceL b (some i) (some j) = _ from if_pos h]; rfl
theorem slAll {b : List Nat} (h : b.length ≤ 100000) : sliceA σ (.str b) (some (.int 0)) (some (.int b.length)) = some (.ok (.str b), σ) := by
  rw [slS ⟨Int.le_refl _, Int.natCast_nonneg _, h⟩]; simp
theorem bAddS {a b : List Nat} (h : a.length + b.length ≤ 100000) : binA .add (.str a) (.str b) = some (.str (a ++ b)) := if_pos h
theorem bAddB {a b : List UInt8} (h : a.length + b.length ≤ 100000) : binA .add (.bytes a) (.bytes b) = some (.bytes (a ++ b)) := if_pos h
theorem mJoin {i : Nat} {vs : List AV} {v : AV} (hi : σ[i]? = some (.list vs)) (h : joinA vs = some v) : methB K σ .join (.str []) [.loc i] = some (.ok v, σ) := by
  show (lstAt σ i).bind _ = _
  unfold lstAt
  rw [hi]; exact opt_of h
theorem oChr {c : Nat} (h : c < 256) : callB σ (.builtin "chr") [.int c] = some (.ok (.str [c]), σ) := by
  unfold callB
  rw [if_neg (by simp), if_neg (by simp), if_pos rfl]; exact if_pos ⟨Int.natCast_nonneg _, Int.ofNat_lt.mpr h⟩
theorem cLesT {a b : Nat} (h : a ≤ b) : cmpA K σ .le (.str [a]) (.str [b]) = some true := dT h
theorem cLesF {a b : Nat} (h : ¬ a ≤ b) : cmpA K σ .le (.str [a]) (.str [b]) = some false := dF h
theorem cEqLoc {i j : Nat} {vs : List AV} {b : Bool} (h1 : σ[i]? = some (.list vs)) (h2 : σ[j]? = some (.list [])) (h : vs.all plainA = true) (hb : vs.isEmpty = b) : cmpA K σ .eq (.loc i) (.loc j) = some b := by
  show eqA K σ (.loc i) (.loc j) = _
  unfold eqA; dsimp only; rw [h1, h2]; exact (if_pos h).trans (congrArg some hb)
theorem cNeLoc {i j : Nat} {vs : List AV} {b : Bool} (h1 : σ[i]? = some (.list vs)) (h2 : σ[j]? = some (.list [])) (h : vs.all plainA = true) (hb : (!vs.isEmpty) = b) : cmpA K σ .ne (.loc i) (.loc j) = some b := by
  show (eqA K σ (.loc i) (.loc j)).map (!·) = _
  rw [show eqA K σ (.loc i) (.loc j) = some vs.isEmpty from cEqLoc (K := K) h1 h2 h rfl]; exact congrArg some hb
theorem cNinT {v w : AV} (h : inA K σ v w = some false) : cmpA K σ .nin v w = some true := by show (inA K σ v w).map (!·) = _; rw [h]; rfl
theorem cNinF {v w : AV} (h : inA K σ v w = some true) : cmpA K σ .nin v w = some false := by show (inA K σ v w).map (!·) = _; rw [h]; rfl
theorem neBF {x y : List UInt8} (h : x = y) : cmpA K σ .ne (.bytes x) (.bytes y) = some false := by
  subst h
  show some (!(x == x)) = _
  rw [beq_self_eq_true]; rfl
theorem neBT {x y : List UInt8} (h : ¬ x = y) : cmpA K σ .ne (.bytes x) (.bytes y) = some true := by
  show some (!(x == y)) = _
  rw [beq_eq_false_iff_ne.mpr h]; rfl
theorem tkM {l l' : List TO} {x y : TO} : (l ++ x :: l').take (l ++ y :: l').length = l ++ x :: l' := List.take_of_length_le (by simp)
section
variable {FT : Addr → Option Fn} {d n : Nat} {m m1 : Lo} {σ1 σ2 : List TO} {Q : RS → Prop}
theorem bFor {ks : List Nat} {it : IE} {b l : List IS} {o : AV} {vs : List AV} (h : evE K FT n d m it σ = some (.ok o, σ1)) (h1 : iterA K σ1 o = some vs) (h2 : evFor K FT n d ks vs b m σ1 = some (.nxt, m1, σ2)) (hQ : Q (evSs K FT (n + 1) d l m1 σ2)) : Q (evSs K FT (n + 2) d (.forr ks it b :: l) m σ) := bStep (by rw [evS_for, h]; dsimp only; rw [h1]; exact h2) hQ
theorem bForR {k : Nat} {hi : IE} {b l : List IS} {z : Int} (h : evE K FT n d m hi σ = some (.ok (.int z), σ1)) (h1 : 0 ≤ z ∧ z ≤ 100000) (h2 : evFor K FT n d [k] ((List.range z.toNat).map fun i => AV.int (Int.ofNat i)) b m σ1 = some (.nxt, m1, σ2)) (hQ : Q (evSs K FT (n + 1) d l m1 σ2)) : Q (evSs K FT (n + 2) d (.forRange k hi b :: l) m σ) := bStep (by rw [evS_range, h]; dsimp only; rw [if_pos h1]; exact h2) hQ
theorem fCons {ks : List Nat} {v : AV} {vs : List AV} {b : List IS} {m2 : Lo} {r : RS} (hp : putT K ks v m = some m2) (hb : NxtE m1 σ1 (evSs K FT n d b m2 σ)) (h : evFor K FT n d ks vs b m1 σ1 = r) : evFor K FT (n + 1) d ks (v :: vs) b m σ = r := by rw [evFor_cons, hp]; dsimp only; rw [hb]; exact h
theorem fNil {ks : List Nat} {b : List IS} : evFor K FT (n + 1) d ks [] b m σ = some (.nxt, m, σ) := rfl
theorem bWhil {c : IE} {b l : List IS} (h : evS K FT n d (.whil c b) m σ = some (.nxt, m1, σ1)) (hQ : Q (evSs K FT n d l m1 σ1)) : Q (evSs K FT (n + 1) d (.whil c b :: l) m σ) := bStep h hQ
theorem whil_core {c : IE} {b : List IS} {C N : Nat} : ∀ (r : Nat) (S : Nat → Lo × List TO), (∀ j, j < r → ∀ N, evT K FT (N + C) d (S j).1 c (S j).2 = some (.ok true, (S j).2) ∧ NxtE (S (j + 1)).1 (S (j + 1)).2 (evSs K FT (N + C) d b (S j).1 (S j).2)) →
    (∀ N, evT K FT (N + C) d (S r).1 c (S r).2 = some (.ok false, (S r).2)) → evS K FT (N + C + r + 1) d (.whil c b) (S 0).1 (S 0).2 = some (.nxt, (S r).1, (S r).2)
  | 0, S, _, h1 => by
    rw [evS_whil, h1 N]
  | r + 1, S, h0, h1 => by
    have h := h0 0 (Nat.succ_pos r) (N + r + 1)
    rw [← fuel_sw] at h
    rw [evS_whil, show N + C + (r + 1) = N + C + r + 1 from rfl, h.1]
    dsimp only
    rw [h.2]
    exact whil_core r (fun j => S (j + 1)) (fun j hj => h0 (j + 1) (Nat.succ_lt_succ hj)) h1
theorem whilL {c : IE} {b : List IS} {C B e k r : Nat} (S : Nat → Lo × List TO) (hr : r ≤ B) (h2 : Nat.ble (B + (C + 1)) e = true) (h3 : e ≤ k) (h0 : ∀ j, j < r → ∀ N, evT K FT (N + C) d (S j).1 c (S j).2 = some (.ok true, (S j).2) ∧ NxtE (S (j + 1)).1 (S (j + 1)).2 (evSs K FT (N + C) d b (S j).1 (S j).2))
    (h1 : ∀ N, evT K FT (N + C) d (S r).1 c (S r).2 = some (.ok false, (S r).2)) : evS K FT k d (.whil c b) (S 0).1 (S 0).2 = some (.nxt, (S r).1, (S r).2) := by
  obtain ⟨j, rfl⟩ := fuel_of (le_fuel hr h2 h3)
  rw [← Nat.add_assoc, Nat.add_right_comm]
  exact whil_core r S h0 h1
theorem for_core {ks : List Nat} {b : List IS} {C N : Nat} : ∀ (vs : List AV) (S : Nat → Lo × List TO), (∀ j v, vs[j]? = some v → ∀ N, ∃ m', putT K ks v (S j).1 = some m' ∧ NxtE (S (j + 1)).1 (S (j + 1)).2 (evSs K FT (N + C) d b m' (S j).2)) →
    evFor K FT (N + C + vs.length + 1) d ks vs b (S 0).1 (S 0).2 = some (.nxt, (S vs.length).1, (S vs.length).2)
  | [], S, _ => fNil
  | v :: vs, S, h0 => by
    obtain ⟨m', h1, h2⟩ := h0 0 v rfl (N + vs.length + 1)
    rw [← fuel_sw] at h2
    exact fCons h1 h2 (for_core vs (fun j => S (j + 1)) fun j w hw => h0 (j + 1) w hw)
theorem forL {ks : List Nat} {b : List IS} {C B e k : Nat} {vs : List AV} (S : Nat → Lo × List TO) (hr : vs.length ≤ B) (h2 : Nat.ble (B + (C + 1)) e = true) (h3 : e ≤ k) (h0 : ∀ j v, vs[j]? = some v → ∀ N, ∃ m', putT K ks v (S j).1 = some m' ∧ NxtE (S (j + 1)).1 (S (j + 1)).2 (evSs K FT (N + C) d b m' (S j).2)) :
    evFor K FT k d ks vs b (S 0).1 (S 0).2 = some (.nxt, (S vs.length).1, (S vs.length).2) := by
  obtain ⟨j, rfl⟩ := fuel_of (le_fuel hr h2 h3)
  rw [← Nat.add_assoc, Nat.add_right_comm]
  exact for_core vs S h0
end
noncomputable def ExcI (i : Nat) (σ1 : List TO) (r : RS) : Prop := ∃ m1, r = some (.exc i, m1, σ1)
section
variable {FT : Addr → Option Fn} {d n : Nat} {m m1 m2 : Lo} {σ1 σ2 : List TO} {Q : RS → Prop} {b l : List IS} {hs : List (Addr × Option Nat × HS)}
theorem bTryR {v : AV} {k : Nat} {τ : List TO} (h : RetP v k τ (evSs K FT n d b m σ)) : RetP v k τ (evSs K FT (n + 2) d (.tryx b hs :: l) m σ) := by
  obtain ⟨m1, σ1, h, e⟩ := h
  exact bOut (evS_try.trans (by rw [h])) (by intro m σ e; cases e) ⟨m1, σ1, rfl, e⟩
theorem bTryN (h : NxtE m1 σ1 (evSs K FT n d b m σ)) (h2 : Q (evSs K FT (n + 1) d l m1 σ1)) : Q (evSs K FT (n + 2) d (.tryx b hs :: l) m σ) := bStep (evS_try.trans (by rw [h])) h2
theorem bTryC {i : Nat} (h : evSs K FT n d b m σ = some (.exc i, m1, σ1)) (h1 : evHs hs i m1 σ1 = some (.nxt, m2, σ2)) (h2 : Q (evSs K FT (n + 1) d l m2 σ2)) : Q (evSs K FT (n + 2) d (.tryx b hs :: l) m σ) := bStep (evS_try.trans (by rw [h]; exact h1)) h2
theorem bTryX {i j : Nat} (h : evSs K FT n d b m σ = some (.exc i, m1, σ1)) (h1 : evHs hs i m1 σ1 = some (.exc j, m2, σ2)) : ExcI j σ2 (evSs K FT (n + 2) d (.tryx b hs :: l) m σ) := bOut (evS_try.trans (by rw [h]; exact h1)) (by intro m σ e; cases e) ⟨m2, rfl⟩
theorem evSs_asgX {k i : Nat} {e : IE} (h : evE K FT n d m e σ = some (.exc i, σ1)) : evSs K FT (n + 2) d (.asg k e :: l) m σ = some (.exc i, m, σ1) := by rw [evSs_cons, evS_asg, stm_exc' h]
theorem fXI {a : Addr} {as : List AV} {np nl i : Nat} {body : List IS} (h0 : FT a = some ⟨np, nl, body⟩) (h1 : (as.length == np && Nat.ble np nl) = true) (h : ExcI i σ1 (evSs K FT n d body (as.map some ++ List.replicate (nl - np) none) σ)) : evFn K FT (n + 1) (d + 1) a as σ = some (.exc i, σ1) := let ⟨_, h⟩ := h; fX h0 h1 h
theorem excAt_eq {i : Nat} {C : Addr} {a : Int} {x : XS} (h : σ[i]? = some (.exc C a x)) : excAt σ i = some (C, a, x) := by unfold excAt; rw [h]
theorem hRaise {i j : Nat} {a b : Int} {w : List Nat} (hi : σ[i]? = some (.exc 59 a .bare)) (hj : m[j]? = some (some (.int b))) : evHs ((59, none, .raise 83 w j) :: hs) i m σ = some (.exc σ.length, m, σ ++ [.exc 83 b .any]) := by
  show (excAt σ i).bind _ = _
  rw [excAt_eq hi, Option.bind_some, if_pos ⟨.inl rfl, .inl rfl⟩, if_pos rfl]
  show ((m[j]?).bind _) = _
  rw [hj]
  exact (show (if ((83 : Addr) = 59 ∨ (83 : Addr) = 71 ∨ (83 : Addr) = 83) ∧ XS.bare = XS.bare then some (Out.exc σ.length, m, σ ++ [TO.exc 83 b .any]) else none) = _ from if_pos ⟨.inr (.inr rfl), rfl⟩)
theorem hAt {i j k : Nat} {a : Int} {x : XS} (hi : σ[i]? = some (.exc 83 a x)) (hk : Nat.beq k j = false) : evHs ((83, some j, .asgAt k j) :: hs) i m σ = some (.nxt, (m.set k (some (.int a))).set j none, σ) := by
  show (excAt σ i).bind _ = _
  rw [excAt_eq hi, Option.bind_some, if_pos ⟨.inr (.inr rfl), .inr (.inr rfl)⟩, if_pos rfl]
  exact if_pos ⟨rfl, fun e => by subst e; rw [show Nat.beq k k = true from Nat.beq_refl k] at hk; cases hk⟩
end
theorem oIntI {i : Int} : callB σ (.type "int") [.int i] = some (.ok (.int i), σ) := by
  unfold callB
  rw [if_neg (by simp), if_neg (by simp), if_neg (by simp), if_neg (by simp), if_neg (by simp), if_pos rfl]; rfl
theorem bMod {a b : Int} (h : ¬ b = 0) : binA .mod (.int a) (.int b) = some (.int (a.fmod b)) := if_neg h
end
protected def stepE : Lean.TSyntax `tactic := Lean.Unhygienic.run do
  let mk (s : String) (f : Lean.Ident → Lean.Unhygienic (Lean.TSyntax `tactic)) : Lean.Unhygienic (Array (Lean.TSyntax ``Lean.Parser.Tactic.tacticSeq)) := (s.splitOn " ").toArray.mapM fun w => do
    let t ← f (Lean.mkIdent w.toName)
    `(Lean.Parser.Tactic.tacticSeq| $t:tactic)
  let a1 ← mk "rConst rEsNil rONone rAllNil gEnd gMid oBytB oOrd oIntI notT notF spT spF tk0 tk1 tk2 tk3 tkM sMid sEnd" fun i => `(tactic| exact $i)
  let a3 ← mk "rVar rEsCons rT rOSome rCmp rSub rBin rSlice rAnd rOr rCallB rCallY rOwn rMeth rTup rList rAt rData rComp rNot rIte rAll iT iF goT goF rCallV" fun i => `(tactic| apply $i)
  let a := a1 ++ a3
  let b ← mk "rCallF rCallC rCmp2F rCmp2T gApp gAt sLoc sTup kWire cLtF cLtT cLeF cLeT cGtF cGtT cGeF cGeT cEqF cEqT cNeF cNeT oLenS oLenB oLenL oIntS slAll slB bAddS bAddB oChr cLesT cLesF neBF neBT bMod mJoin cEqLoc cNeLoc cNinT cNinF sByt oBytL mPop mUpper sVal k1" fun i => `(tactic| (with_reducible apply $i) <;> decreasing_trivial_pre_omega)
  let g ← mk "binA cmpA callB callC methB sliceA kindT iterA subA notC plainM ixOk Nat.ble AV.frees AV.int AV.bool AV.str AV.tup AV.bytes AV.none List.take and Nat.cast" fun i => `(tactic| ((with_reducible show $i .. = _); exact rfl))
  let h ← mk "TO AV UInt8" fun i => `(tactic| ((with_reducible show (_ : List $i)[(_ : Nat)]? = _); exact rfl))
  let c ← mk "c1 c2 c3 c4 c5 c6 c7 c8 c9" fun i => `(tactic| exact $i ..)
  `(tactic| first | with_reducible assumption | (with_reducible first $[| $a]*) <;> decreasing_trivial_pre_omega | (first $[| $b]*) | (with_reducible first $[| $c]*) | ((with_reducible show (_ : Lo)[(_ : Nat)]? = _); exact rfl) | (first $[| $h]*) | (first $[| $g]*) | exact fle rfl | exact Nat.le_of_ble_eq_true rfl | decide)
protected def stepB : Lean.TSyntax `tactic := Lean.Unhygienic.run do
  let mk (s : String) (f : Lean.Ident → Lean.Unhygienic (Lean.TSyntax `tactic)) : Lean.Unhygienic (Array (Lean.TSyntax ``Lean.Parser.Tactic.tacticSeq)) := (s.splitOn " ").toArray.mapM fun w => do
    let t ← f (Lean.mkIdent w.toName)
    `(Lean.Parser.Tactic.tacticSeq| $t:tactic)
  let a ← mk "bAsg bAsgC bExprN bExprB" fun i => `(tactic| ((with_reducible apply $i); (focus decreasing_trivial_pre_omega)))
  let e ← mk "bIfR bIfX bIf0" fun i => `(tactic| ((with_reducible apply $i); (focus decreasing_trivial_pre_omega); (try with_reducible first | apply iT | apply iF)))
  let b ← mk "bRaise bRet bNxt bNxtE" fun i => `(tactic| (((with_reducible apply $i) <;> decreasing_trivial_pre_omega); done))
  `(tactic| first | (first $[| $a]*) | (first $[| $e]*) | (first $[| $b]*) | ((with_reducible apply bAsgT); (focus decreasing_trivial_pre_omega); (focus exact rfl)) | ((with_reducible apply bAsgAt); (focus decreasing_trivial_pre_omega); (focus decreasing_trivial_pre_omega); (focus decreasing_trivial_pre_omega); (focus decreasing_trivial_pre_omega)) | skip)
end Mine
end

section
open PySem PySem.W PyProof.Rows
namespace Mine
local macro_rules | `(tactic| decreasing_trivial_pre_omega) => pure Mine.stepE
local macro_rules | `(tactic| decreasing_trivial) => pure Mine.stepB
set_option maxRecDepth 100000
set_option linter.unusedSimpArgs false
set_option linter.unusedVariables false
set_option maxHeartbeats 1000000
section
variable {α β : Type}
theorem getL (l l' : List α) (k : Nat) : (l ++ l')[l.length + k]? = l'[k]? := by rw [List.getElem?_append_right (Nat.le_add_right _ _), Nat.add_sub_cancel_left]
theorem getL0 (l l' : List α) : (l ++ l')[l.length]? = l'[0]? := getL l l' 0
theorem setL (l l' : List α) (k : Nat) (x : α) : (l ++ l').set (l.length + k) x = l ++ l'.set k x := by rw [List.set_append, if_neg (Nat.not_lt.mpr (Nat.le_add_right _ _)), Nat.add_sub_cancel_left]
theorem takeL (l l' : List α) : (l ++ l').take l.length = l := by simp
theorem takeLk (l l' : List α) (k : Nat) : (l ++ l').take (l.length + k) = l ++ l'.take k := by rw [List.take_append, List.take_of_length_le (Nat.le_add_right _ _), Nat.add_sub_cancel_left]
end
section
variable {K : Frag} {σ : List TO} {m : Lo}
end

section
variable (P : Params) (n d : Nat) (m : Lo) (σ : List TO)
noncomputable abbrev evf (P : Params) (n d : Nat) (a : Addr) (as : List AV) (σ : List TO) : R AV := evFn (KP P) FT n d a as σ

local macro_rules | `(tactic| decreasing_trivial_pre_omega) => pure Mine.stepE
local macro_rules | `(tactic| decreasing_trivial) => pure Mine.stepB
theorem ints_map : ∀ l : List Int, intsOf (l.map .int) = some l
  | [] => rfl
  | a :: l => by rw [List.map_cons, intsOf, ints_map l]; rfl
theorem inTup {K : Frag} {k : Int} {b : Bool} {l : List Int} {vs : List AV} (e : vs = l.map .int) (h : l.any (· == k) = b) : cmpA K σ .inn (.int k) (.tup vs) = some b := by
  show (intsOf vs).map (·.any (· == k)) = _
  rw [e, ints_map, Option.map_some, h]
theorem q92 (c : Nat) : evf P (n + 30) (d + 1) 92 [.int c] σ = some (.ok (.int (lowerN c : Nat)), σ) := by
  refine fRet FT92 rfl rfl ?_; dsimp only [F92, List.map_cons, List.map_nil, List.length_cons, List.length_nil, Nat.reduceAdd, Nat.reduceSub, List.replicate, List.cons_append, List.nil_append, List.toList_toArray]
  by_cases h1 : 65 ≤ (c : Int)
  · by_cases h2 : (c : Int) ≤ 90
    · have e : AV.int ((c : Int) + 32) = AV.int (lowerN c : Nat) := by unfold lowerN; rw [if_pos (by omega)]; rfl
      decreasing_trivial
    · have e : AV.int (c : Int) = AV.int (lowerN c : Nat) := by unfold lowerN; rw [if_neg (by omega)]
      decreasing_trivial
  · have e : AV.int (c : Int) = AV.int (lowerN c : Nat) := by unfold lowerN; rw [if_neg (by omega)]
    decreasing_trivial
noncomputable def leapI (y : Int) : Bool := decide (y.fmod 4 = 0) && (decide (y.fmod 100 ≠ 0) || decide (y.fmod 400 = 0))
noncomputable def longI (y m : Int) : Int := if m = 2 then (if leapI y then 29 else 28) else if m = 4 ∨ m = 6 ∨ m = 9 ∨ m = 11 then 30 else 31
theorem q120 (y : Int) : evf P (n + 30) (d + 1) 120 [.int y] σ = some (.ok (.bool (leapI y)), σ) := by
  refine fRet FT120 rfl rfl ?_; dsimp only [F120, List.map_cons, List.map_nil, List.length_cons, List.length_nil, Nat.reduceAdd, Nat.reduceSub, List.replicate, List.cons_append, List.nil_append, List.toList_toArray]
  have e : ∀ b, leapI y = b → AV.bool b = AV.bool (leapI y) := fun b h => by rw [h]
  by_cases h1 : y.fmod 4 = 0
  rotate_left
  · have := e false (by simp [leapI, h1])
    decreasing_trivial
  by_cases h2 : y.fmod 100 = 0
  rotate_left
  · have := e true (by simp [leapI, h1, h2])
    decreasing_trivial
  by_cases h3 : y.fmod 400 = 0
  · have := e true (by simp [leapI, h1, h3])
    decreasing_trivial
  · have := e false (by simp [leapI, h2, h3])
    decreasing_trivial
theorem longI_30 {K : Frag} {k : Int} (h : k = 4 ∨ k = 6 ∨ k = 9 ∨ k = 11) : cmpA K σ .inn (.int k) (.tup [.int 4, .int 6, .int 9, .int 11]) = some true := inTup σ (l := [4, 6, 9, 11]) rfl (by rcases h with rfl | rfl | rfl | rfl <;> rfl)
theorem longI_31 {K : Frag} {k : Int} (h : ¬ (k = 4 ∨ k = 6 ∨ k = 9 ∨ k = 11)) : cmpA K σ .inn (.int k) (.tup [.int 4, .int 6, .int 9, .int 11]) = some false := inTup σ (l := [4, 6, 9, 11]) rfl (by
  rw [List.any_eq_false]
  intro x hx e
  rw [← eq_of_beq e] at h
  simp only [List.mem_cons, List.not_mem_nil, or_false] at hx
  exact h hx)
theorem q127 (y k : Int) : evf P (n + 60) (d + 2) 127 [.int y, .int k] σ = some (.ok (.int (longI y k)), σ) := by
  refine fRet FT127 rfl rfl ?_; dsimp only [F127, List.map_cons, List.map_nil, List.length_cons, List.length_nil, Nat.reduceAdd, Nat.reduceSub, List.replicate, List.cons_append, List.nil_append, List.toList_toArray]
  have e : ∀ i, longI y k = i → AV.int i = AV.int (longI y k) := fun b h => by rw [h]
  by_cases h0 : k = 2
  · cases hl : leapI y
    · have c1 : ∀ n d σ, evf P (n + 30) (d + 1) 120 [.int y] σ = some (.ok (.bool false), σ) := fun n d σ => hl ▸ q120 P n d σ y
      have := e 28 (by rw [longI, if_pos h0, hl]; rfl)
      decreasing_trivial
      decreasing_trivial
    · have c1 : ∀ n d σ, evf P (n + 30) (d + 1) 120 [.int y] σ = some (.ok (.bool true), σ) := fun n d σ => hl ▸ q120 P n d σ y
      have := e 29 (by rw [longI, if_pos h0, hl]; rfl)
      decreasing_trivial
      decreasing_trivial
  · decreasing_trivial
    by_cases h1 : k = 4 ∨ k = 6 ∨ k = 9 ∨ k = 11
    · have c1 := fun σ => longI_30 (K := KP P) σ h1
      have := e 30 (by rw [longI, if_neg h0, if_pos h1])
      decreasing_trivial
    · have c1 := fun σ => longI_31 (K := KP P) σ h1
      have := e 31 (by rw [longI, if_neg h0, if_neg h1])
      decreasing_trivial
theorem q461 (y k : Int) : evf P (n + 60) (d + 1) 461 [.int y, .int k] σ = some (.ok (.int (longI y k)), σ) := by
  refine fRet FT461 rfl rfl ?_; dsimp only [F461, List.map_cons, List.map_nil, List.length_cons, List.length_nil, Nat.reduceAdd, Nat.reduceSub, List.replicate, List.cons_append, List.nil_append, List.toList_toArray]
  have e : ∀ i, longI y k = i → AV.int i = AV.int (longI y k) := fun b h => by rw [h]
  by_cases h0 : k = 2
  · have e : ∀ b, leapI y = b → AV.int (if b then 29 else 28) = AV.int (longI y k) := fun b h => by rw [longI, if_pos h0, h]
    by_cases h1 : y.fmod 4 = 0
    rotate_left
    · have : AV.int 28 = AV.int (longI y k) := e false (by simp [leapI, h1])
      decreasing_trivial
      decreasing_trivial
    by_cases h2 : y.fmod 100 = 0
    rotate_left
    · have : AV.int 29 = AV.int (longI y k) := e true (by simp [leapI, h1, h2])
      decreasing_trivial
      decreasing_trivial
    by_cases h3 : y.fmod 400 = 0
    · have : AV.int 29 = AV.int (longI y k) := e true (by simp [leapI, h1, h3])
      decreasing_trivial
      decreasing_trivial
    · have : AV.int 28 = AV.int (longI y k) := e false (by simp [leapI, h2, h3])
      decreasing_trivial
      decreasing_trivial
  · decreasing_trivial
    by_cases h1 : k = 4 ∨ k = 6 ∨ k = 9 ∨ k = 11
    · have c1 := fun σ => longI_30 (K := KP P) σ h1
      have := e 30 (by rw [longI, if_neg h0, if_pos h1])
      decreasing_trivial
    · have c1 := fun σ => longI_31 (K := KP P) σ h1
      have := e 31 (by rw [longI, if_neg h0, if_neg h1])
      decreasing_trivial
noncomputable def dayI (y k b : Int) : Bool := decide (1 ≤ y) && decide (y ≤ 9999) && (decide (1 ≤ k) && decide (k ≤ 12)) && (decide (1 ≤ b) && decide (b ≤ longI y k))
theorem q134 (y k b : Int) : evf P (n + 90) (d + 3) 134 [.int y, .int k, .int b] σ = some (.ok (.bool (dayI y k b)), σ) := by
  refine fRet FT134 rfl rfl ?_; dsimp only [F134, List.map_cons, List.map_nil, List.length_cons, List.length_nil, Nat.reduceAdd, Nat.reduceSub, List.replicate, List.cons_append, List.nil_append, List.toList_toArray]
  have e : ∀ i, dayI y k b = i → AV.bool i = AV.bool (dayI y k b) := fun b h => by rw [h]
  have c1 := fun n d σ => q127 P n d σ y k
  by_cases h1 : 1 ≤ y
  rotate_left
  · have := e false (by rw [dayI, decide_eq_false h1]; rfl)
    decreasing_trivial
  by_cases h2 : y ≤ 9999
  rotate_left
  · have := e false (by rw [dayI, decide_eq_true h1, decide_eq_false h2]; rfl)
    decreasing_trivial
  by_cases h3 : 1 ≤ k
  rotate_left
  · have := e false (by rw [dayI, decide_eq_true h1, decide_eq_true h2, decide_eq_false h3]; rfl)
    decreasing_trivial
  by_cases h4 : k ≤ 12
  rotate_left
  · have := e false (by rw [dayI, decide_eq_true h1, decide_eq_true h2, decide_eq_true h3, decide_eq_false h4]; rfl)
    decreasing_trivial
  by_cases h5 : 1 ≤ b
  rotate_left
  · have := e false (by rw [dayI, decide_eq_true h1, decide_eq_true h2, decide_eq_true h3, decide_eq_true h4, decide_eq_false h5]; rfl)
    decreasing_trivial
  by_cases h6 : b ≤ longI y k
  · have := e true (by rw [dayI, decide_eq_true h1, decide_eq_true h2, decide_eq_true h3, decide_eq_true h4, decide_eq_true h5, decide_eq_true h6]; rfl)
    decreasing_trivial
  · have := e false (by rw [dayI, decide_eq_true h1, decide_eq_true h2, decide_eq_true h3, decide_eq_true h4, decide_eq_true h5, decide_eq_false h6]; rfl)
    decreasing_trivial
end
section
variable {K : Frag} {FT : Addr → Option Fn} {d : Nat} {m : Lo} {σ : List TO}
theorem comp_map {α : Type} {g h : α → AV} {el : IE} {c k : Nat} : ∀ {l : List α}, (∀ a ∈ l, ∀ k, evE K FT (k + c) d [some (g a)] el σ = some (.ok (h a), σ)) → evComp K FT (k + c + l.length + 1) d el none (l.map g) σ = some (.ok (l.map h), σ)
  | [], _ => evComp_nil
  | a :: l, hh => by
    rw [List.map_cons, List.length_cons, evComp_cons, show k + c + (l.length + 1) = k + c + l.length + 1 from rfl, evTO_none]
    dsimp only [ret]
    rw [fuel_sw, hh a (.head _), ← fuel_sw]
    exact bnd_of (comp_map fun b hb => hh b (.tail _ hb)) rfl
theorem comp_filter {α : Type} {g h : α → AV} {p : α → Bool} {el t : IE} {c k : Nat} : ∀ {l : List α}, (∀ a ∈ l, ∀ k, evT K FT (k + c) d [some (g a)] t σ = some (.ok (p a), σ)) → (∀ a ∈ l, ∀ k, evE K FT (k + 1 + c) d [some (g a)] el σ = some (.ok (h a), σ)) → evComp K FT (k + 1 + c + l.length + 1) d el (some t) (l.map g) σ = some (.ok ((l.filter p).map h), σ)
  | [], _, _ => evComp_nil
  | a :: l, ht, hh => by
    have ih := comp_filter (l := l) (k := k) (fun b hb => ht b (.tail _ hb)) (fun b hb => hh b (.tail _ hb))
    rw [List.map_cons, List.length_cons, evComp_cons, show k + 1 + c + (l.length + 1) = k + 1 + c + l.length + 1 from rfl, evTO_some, Nat.add_right_comm (k + 1) c, ht a (.head _), ← Nat.add_right_comm (k + 1) c, List.filter_cons]
    cases p a
    · exact ih
    · dsimp only
      rw [fuel_sw, Nat.add_right_comm k 1 l.length, hh a (.head _), ← Nat.add_right_comm k 1 l.length, ← fuel_sw]
      exact bnd_of ih rfl
theorem comp_mapL {α : Type} {g h : α → AV} {el : IE} {l : List α} {c k b e : Nat} (hl : l.length ≤ b) (h2 : Nat.ble (b + (c + 1)) e = true) (h3 : e ≤ k) (hh : ∀ a ∈ l, ∀ k, evE K FT (k + c) d [some (g a)] el σ = some (.ok (h a), σ)) : evComp K FT k d el none (l.map g) σ = some (.ok (l.map h), σ) := by
  obtain ⟨j, rfl⟩ := fuel_of (le_fuel hl h2 h3)
  rw [← Nat.add_assoc, Nat.add_right_comm]
  exact comp_map hh
theorem comp_filterL {α : Type} {g h : α → AV} {p : α → Bool} {el t : IE} {l : List α} {c k b e : Nat} (hl : l.length ≤ b) (h2 : Nat.ble (b + (c + 2)) e = true) (h3 : e ≤ k) (ht : ∀ a ∈ l, ∀ k, evT K FT (k + c) d [some (g a)] t σ = some (.ok (p a), σ)) (hh : ∀ a ∈ l, ∀ k, evE K FT (k + c) d [some (g a)] el σ = some (.ok (h a), σ)) : evComp K FT k d el (some t) (l.map g) σ = some (.ok ((l.filter p).map h), σ) := by
  obtain ⟨j, rfl⟩ := fuel_of (le_fuel hl h2 h3)
  have := comp_filter (k := j) ht (fun a ha k => hh a ha (k + 1))
  rw [show j + 1 + c + l.length + 1 = j + (c + 2) + l.length by rw [Nat.add_right_comm j 1 c, Nat.add_right_comm (j + c + 1) l.length 1]; rfl] at this
  exact this
end
theorem frees_map {α : Type} {g : α → AV} (h : ∀ c, (g c).free = true) : ∀ l : List α, AV.frees (l.map g) = true
  | [] => rfl
  | c :: l => by rw [List.map_cons, AV.frees, h c, frees_map h l]; rfl
theorem strsOf_map {α : Type} {g : α → List Nat} : ∀ l : List α, strsOf (l.map fun c => .str (g c)) = some (l.map g)
  | [] => rfl
  | c :: l => by rw [List.map_cons, strsOf, strsOf_map l]; rfl
theorem intsOf_map {α : Type} {g : α → Int} : ∀ l : List α, intsOf (l.map fun c => .int (g c)) = some (l.map g)
  | [] => rfl
  | c :: l => by rw [List.map_cons, intsOf, intsOf_map l]; rfl
theorem joinA_map {α : Type} {g : α → Nat} {l : List α} (h : l.length ≤ 100000) : joinA (l.map fun c => .str [g c]) = some (.str (l.map g)) := by
  unfold joinA
  rw [strsOf_map]
  simp [h]
  induction l with
  | nil => rfl
  | cons c l ih => simp at h ⊢; exact ih (by omega)

section
variable (P : Params) (n d : Nat) (m : Lo) (σ : List TO)
theorem asc_le {t : List Nat} (h : ascii t = true) {c : Nat} (hc : c ∈ t) : c < 128 := by
  simp only [ascii, List.all_eq_true, decide_eq_true_eq] at h
  exact h c hc
theorem lowerN_le {c : Nat} (h : c < 128) : lowerN c < 128 := by unfold lowerN; split <;> omega

theorem q102 (t : List Nat) (h : ascii t = true) (hl : t.length ≤ 40) : evf P (n + 120) (d + 2) 102 [.str t] σ = some (.ok (.str (t.map lowerN)), σ) := by
  have c1 : ∀ σ, iterA (KP P) σ (.str t) = some (t.map fun c => .str [c]) := fun σ => if_pos h
  have k1 : ∀ k, 100 ≤ k → ∀ σ, evComp (KP P) FT k (d + 1) (.call (.const (.val (.builtin "chr"))) [.call (.const (.val (.ref 92))) [.call (.const (.val (.builtin "ord"))) [.var 0]]]) none (t.map fun c => .str [c]) σ = some (.ok (t.map fun c => .str [lowerN c]), σ) := fun k hk σ => comp_mapL (c := 50) hl rfl hk (fun c hc k => by
    have c1 := fun n d σ => q92 P n d σ c
    have h2 : lowerN c < 256 := Nat.lt_trans (lowerN_le (asc_le h hc)) (by decide)
    decreasing_trivial_pre_omega)
  have h1 : AV.frees (t.map fun c => AV.str [lowerN c]) = true := frees_map (fun _ => rfl) t
  have h2 := joinA_map (g := lowerN) (l := t) (le_of hl rfl)
  have h3 : (t.map fun c => AV.str [lowerN c]).length ≤ 100000 := by rw [List.length_map]; exact le_of hl rfl
  refine fRet FT102 rfl rfl ?_; dsimp only [F102, List.map_cons, List.map_nil, List.length_cons, List.length_nil, Nat.reduceAdd, Nat.reduceSub, List.replicate, List.cons_append, List.nil_append, List.toList_toArray]
  decreasing_trivial
end
noncomputable def monU : List (List Nat) := [[74, 97, 110], [70, 101, 98], [77, 97, 114], [65, 112, 114], [77, 97, 121], [74, 117, 110], [74, 117, 108], [65, 117, 103], [83, 101, 112], [79, 99, 116], [78, 111, 118], [68, 101, 99]]
noncomputable def monL : List (List Nat) := monU.map (·.map lowerN)
noncomputable def mIdx (t : List Nat) : Option Nat := monL.findIdx? (· == t.map lowerN)
noncomputable def mnum (t : List Nat) : Int := match mIdx t with
  | some k => (k : Int) + 1
  | none => 0
noncomputable def isFigN (c : Nat) : Bool := decide (48 ≤ c) && decide (c ≤ 57)

section
variable (P : Params) (n d : Nat) (m : Lo) (σ : List TO)
theorem t113 : tupItems (KP P) (.val (.ref 113)) = some (monU.map .str) := by kernel_rfl
theorem t425 : tupItems (KP P) (.val (.ref 425)) = some (monL.map .str) := by kernel_rfl
theorem in_loc {K : Frag} {s : List Nat} {i : Nat} : inA K σ (.str s) (.loc i) = match σ[i]? with
    | some (.list vs) => (strsOf vs).map (·.any (· == s))
    | _ => none := by cases s with
  | nil => rfl
  | cons c s => cases s <;> rfl
theorem in_val {K : Frag} {s : List Nat} {v : Value} : inA K σ (.str s) (.val v) = (tupItems K (.val v)).bind fun vs => (strsOf vs).map (·.any (· == s)) := by cases s with
  | nil => rfl
  | cons c s => cases s <;> rfl
theorem strsOf_map1 : ∀ l : List (List Nat), strsOf (l.map .str) = some l
  | [] => rfl
  | c :: l => by rw [List.map_cons, strsOf, strsOf_map1 l]; rfl
noncomputable def noFig (t : List Nat) : List AV := (t.filter fun c => !isFigN c).map fun c => .str [c]
theorem noFig_all : ∀ t : List Nat, (noFig t).isEmpty = t.all isFigN
  | [] => rfl
  | c :: t => by
    have := noFig_all t
    rw [noFig] at this ⊢
    rw [List.filter_cons, List.all_cons]
    cases isFigN c
    · rfl
    · exact this
theorem noFig_plain (t : List Nat) (h : ascii t = true) : (noFig t).all plainA = true := by
  rw [List.all_eq_true]
  intro v hv
  obtain ⟨c, hc, rfl⟩ := List.mem_map.mp hv
  exact (Bool.and_true _).trans (decide_eq_true (asc_le h (List.mem_filter.mp hc).1))
theorem noFig_frees (t : List Nat) : AV.frees (noFig t) = true := frees_map (fun _ => rfl) _
theorem figs_eq (t : List Nat) : figs t = (t != [] && t.all isFigN) := by
  unfold figs isFigN
  congr 2
  funext c
  exact Bool.decide_and _ _
theorem noFig_len (t : List Nat) : (noFig t).length ≤ t.length := by
  rw [noFig, List.length_map]; exact List.length_filter_le _ _

theorem fig_test {K : Frag} {FT : Addr → Option Fn} {k d : Nat} (x : Nat) : evT K FT (k + 20) d [some (.str [x])] (.not (.cmp2 .le .le (.const (.str [48])) (.var 0) (.const (.str [57])))) σ = some (.ok (!isFigN x), σ) := by
  unfold isFigN
  by_cases h1 : 48 ≤ x
  · by_cases h2 : x ≤ 57
    · rw [decide_eq_true h1, decide_eq_true h2]
      exact Eq.trans (b := some (.ok false, σ)) (by decreasing_trivial_pre_omega) rfl
    · rw [decide_eq_true h1, decide_eq_false h2]
      exact Eq.trans (b := some (.ok true, σ)) (by decreasing_trivial_pre_omega) rfl
  · rw [decide_eq_false h1]
    exact Eq.trans (b := some (.ok true, σ)) (by decreasing_trivial_pre_omega) rfl
theorem q144 (t : List Nat) (h : ascii t = true) (hl : t.length ≤ 40) : evf P (n + 120) (d + 1) 144 [.str t] σ = some (.ok (.bool (figs t)), σ) := by
  have h5 := figs_eq t
  have k1 : ∀ k, 100 ≤ k → ∀ σ, evComp (KP P) FT k d (.var 0) (some (.not (.cmp2 .le .le (.const (.str [48])) (.var 0) (.const (.str [57]))))) (t.map fun c => .str [c]) σ = some (.ok (noFig t), σ) := fun k hk σ => comp_filterL (c := 20) hl rfl hk (fun c _ k => fig_test σ c) (fun c _ k => by decreasing_trivial_pre_omega)
  have h1 := noFig_plain t h
  have h2 := noFig_frees t
  have h4 := Nat.le_trans (noFig_len t) (le_of (c := 100000) hl rfl)
  have c1 : ∀ σ, iterA (KP P) σ (.str t) = some (t.map fun c => .str [c]) := fun σ => if_pos h
  have e : ∀ b, figs t = b → AV.bool b = AV.bool (figs t) := fun b h => by rw [h]
  refine fRet FT144 rfl rfl ?_; dsimp only [F144, List.map_cons, List.map_nil, List.length_cons, List.length_nil, Nat.reduceAdd, Nat.reduceSub, List.replicate, List.cons_append, List.nil_append, List.toList_toArray]
  by_cases hn : t = []
  · have := e false (by rw [h5, hn]; rfl)
    have c2 : ∀ σ, cmpA (KP P) σ .ne (.str t) (.str []) = some false := fun σ => by rw [hn]; rfl
    decreasing_trivial
  · have c2 : ∀ σ, cmpA (KP P) σ .ne (.str t) (.str []) = some true := fun σ => by
      show some (!(t == [])) = _
      rw [beq_eq_false_iff_ne.mpr hn]; rfl
    cases hb : (noFig t).isEmpty with
    | true =>
      have := e true (by rw [h5, ← noFig_all, hb, bne_iff_ne.mpr hn]; rfl)
      decreasing_trivial
    | false =>
      have := e false (by rw [h5, ← noFig_all, hb, bne_iff_ne.mpr hn]; rfl)
      decreasing_trivial
theorem monU_ok : ∀ s ∈ monU, ascii s = true ∧ s.length ≤ 40 := by decide +kernel
theorem frees_mon : AV.frees (monL.map .str) = true := frees_map (fun _ => rfl) _
theorem in_mon {K : Frag} {t : List Nat} {b : Bool} (h : (mIdx t).isSome = b) : cmpA K (σ ++ [.list (monL.map .str)]) .inn (.str (t.map lowerN)) (.loc σ.length) = some b := by
  show inA _ _ _ _ = _
  rw [in_loc, gEnd]
  show (strsOf _).map _ = _
  rw [strsOf_map1]
  exact congrArg some (List.findIdx?_isSome.symm.trans h)
theorem ix_mon {K : Frag} {t : List Nat} {k : Nat} (h : mIdx t = some k) : methB K (σ ++ [.list (monL.map .str)]) .index (.loc σ.length) [.str (t.map lowerN)] = some (.ok (.int k), σ ++ [.list (monL.map .str)]) := by
  show (lstAt _ _).bind _ = _
  unfold lstAt
  rw [gEnd]
  show opt ((strsOf _).bind _) _ = _
  rw [strsOf_map1]
  show opt (Option.map _ (mIdx t)) _ = _
  rw [h]; rfl
theorem q139 (t : List Nat) (h : ascii t = true) (hl : t.length ≤ 40) : evf P (n + 200) (d + 3) 139 [.str t] σ = some (.ok (.int (mnum t)), σ) := by
  have k1 : ∀ k, 170 ≤ k → ∀ σ, evComp (KP P) FT k (d + 2) (.call (.const (.val (.ref 102))) [.var 0]) none (monU.map .str) σ = some (.ok (monL.map .str), σ) := fun k hk σ => by
    have e : monL.map AV.str = monU.map fun s => .str (s.map lowerN) := by rw [monL, List.map_map]; rfl
    rw [e]
    exact comp_mapL (c := 150) (b := 12) (Nat.le_refl _) rfl hk (fun s hs k => by
      have c1 := fun n d σ => q102 P n d σ s (monU_ok s hs).1 (monU_ok s hs).2
      decreasing_trivial_pre_omega)
  have c1 : ∀ σ, iterA (KP P) σ (.val (.ref 113)) = some (monU.map .str) := fun σ => t113 P
  have h1 := frees_mon
  have h2 : (monL.map AV.str).length ≤ 100000 := Nat.le_of_ble_eq_true rfl
  have c2 := fun n d σ => q102 P n d σ t h hl
  have e : ∀ b, mnum t = b → AV.int b = AV.int (mnum t) := fun b h => by rw [h]
  refine fRet FT139 rfl rfl ?_; dsimp only [F139, List.map_cons, List.map_nil, List.length_cons, List.length_nil, Nat.reduceAdd, Nat.reduceSub, List.replicate, List.cons_append, List.nil_append, List.toList_toArray]
  decreasing_trivial
  cases hk : mIdx t with
  | none =>
    have := e 0 (by rw [mnum, hk])
    have c3 := in_mon (K := KP P) (t := t) (b := false) σ (congrArg Option.isSome hk)
    decreasing_trivial
  | some k =>
    have := e (k + 1) (by rw [mnum, hk])
    have c3 := in_mon (K := KP P) (t := t) (b := true) σ (congrArg Option.isSome hk)
    have c4 := ix_mon (K := KP P) σ hk
    decreasing_trivial
end
theorem sp_in {c : Nat} : ∀ {t : List Nat}, ∀ p ∈ splitL c t, (∀ y ∈ p, y ∈ t) ∧ p.length ≤ t.length
  | [], p, hp => by
    simp only [splitL, List.mem_singleton] at hp
    subst hp
    exact ⟨fun _ h => (nomatch h), Nat.le_refl _⟩
  | x :: r, p, hp => by
    rw [splitL] at hp
    split at hp
    · rcases List.mem_cons.mp hp with rfl | hp
      · exact ⟨fun _ h => (nomatch h), Nat.zero_le _⟩
      · have := sp_in p hp
        exact ⟨fun y hy => .tail _ (this.1 y hy), Nat.le_succ_of_le this.2⟩
    · split at hp
      · simp only [List.mem_singleton] at hp
        subst hp
        exact ⟨fun y hy => by simp at hy; simp [hy], by simp⟩
      · rename_i q qs e
        rcases List.mem_cons.mp hp with rfl | hp
        · have := sp_in q (by rw [e]; exact .head _)
          refine ⟨fun y hy => ?_, by simpa using this.2⟩
          rcases List.mem_cons.mp hy with rfl | hy
          · exact .head _
          · exact .tail _ (this.1 y hy)
        · have := sp_in p (by rw [e]; exact .tail _ hp)
          exact ⟨fun y hy => .tail _ (this.1 y hy), Nat.le_succ_of_le this.2⟩
theorem sp_len {c : Nat} : ∀ {t : List Nat}, (splitL c t).length ≤ t.length + 1
  | [] => by simp [splitL]
  | x :: r => by
    have := @sp_len c r
    rw [splitL]
    split
    · simpa using this
    · split
      · simp
      · rename_i q qs e
        rw [e] at this
        simpa using Nat.le_succ_of_le this
theorem sp_ok {c : Nat} {t : List Nat} (h : ascii t = true) (hl : t.length ≤ 40) : ∀ p ∈ splitL c t, ascii p = true ∧ p.length ≤ 40 := fun p hp => by
  have := sp_in p hp
  refine ⟨?_, by omega⟩
  simp only [ascii, List.all_eq_true, decide_eq_true_eq]
  exact fun y hy => asc_le h (this.1 y hy)


noncomputable def dayR (t : List Nat) : Option (Int × Int × Int) := match splitL 45 t with
  | [a, b, c] => if figs a = true ∧ figs c = true ∧ a.length ≤ 2 ∧ c.length = 4 ∧ dayI (figVal c) (mnum b) (figVal a) = true then some ((figVal c : Int), mnum b, (figVal a : Int)) else none
  | _ => none
noncomputable def dueAV (t : List Nat) : AV := match dayR t with
  | some (y, k, b) => .tup [.int y, .int k, .int b]
  | none => .none
section
variable {t a b c : List Nat}
theorem dayR_no (hp : splitL 45 t = [a, b, c]) (h : ¬ (figs a = true ∧ figs c = true ∧ a.length ≤ 2 ∧ c.length = 4 ∧ dayI (figVal c) (mnum b) (figVal a) = true)) : dayR t = none := by
  unfold dayR; rw [hp]; exact if_neg h
theorem dayR_yes (hp : splitL 45 t = [a, b, c]) (h : figs a = true ∧ figs c = true ∧ a.length ≤ 2 ∧ c.length = 4 ∧ dayI (figVal c) (mnum b) (figVal a) = true) : dayR t = some ((figVal c : Int), mnum b, (figVal a : Int)) := by
  unfold dayR; rw [hp]; exact if_pos h
theorem dayR_len (h : ¬ (splitL 45 t).length = 3) : dayR t = none := by
  unfold dayR
  generalize splitL 45 t = parts at h
  match parts, h with
  | [], _ => rfl
  | [_], _ => rfl
  | [_, _], _ => rfl
  | [_, _, _], h => exact absurd rfl h
  | _ :: _ :: _ :: _ :: _, _ => rfl
theorem due_free (t : List Nat) : (dueAV t).free = true := by
  unfold dueAV
  split <;> rfl
theorem due_no (h : dayR t = none) : AV.none = dueAV t := by rw [dueAV, h]
theorem due_yes {y k b : Int} (h : dayR t = some (y, k, b)) : AV.tup [.int y, .int k, .int b] = dueAV t := by rw [dueAV, h]
theorem three {l : List (List Nat)} (h : l.length = 3) : ∃ a b c, l = [a, b, c] := by
  match l, h with
  | [a, b, c], _ => exact ⟨a, b, c, rfl⟩
theorem ne_nat {n k : Nat} (h : ¬ n = k) : ¬ (n : Int) = (k : Int) := fun e => h (Int.ofNat.inj e)
theorem le_nat {n k : Nat} (h : n ≤ k) : ¬ (k : Int) < (n : Int) := fun e => Nat.not_lt.mpr h (Int.ofNat_lt.mp e)
theorem gt_nat {n k : Nat} (h : ¬ n ≤ k) : (k : Int) < (n : Int) := Int.ofNat_lt.mpr (Nat.lt_of_not_le h)
end
section
variable (P : Params) (n d : Nat) (m : Lo) (σ : List TO)
theorem q151 (t : List Nat) (h : ascii t = true) (hl : t.length ≤ 40) : match dayR t with
    | some (y, k, b) => evf P (n + 260) (d + 4) 151 [.str t, .int 0, .int t.length] σ = some (.ok (.tup [.int y, .int k, .int b]), σ)
    | none => Raised (evf P (n + 260) (d + 4) 151 [.str t, .int 0, .int t.length] σ) σ 59 0 := by
  have hl' := le_of (c := 100000) hl rfl
  by_cases h3 : (splitL 45 t).length = 3
  rotate_left
  · rw [dayR_len h3]
    have c5 : ∀ σ : List TO, methB (KP P) σ .split (.str t) [.str [45]] = some (.ok (.loc σ.length), σ ++ [.list ((splitL 45 t).map .str)]) := fun σ => mSplit hl'
    have h3 : ¬ (((splitL 45 t).map AV.str).length : Int) = 3 := by rw [List.length_map]; exact ne_nat h3
    have h2 : ((splitL 45 t).map AV.str).length ≤ 100000 := by rw [List.length_map]; exact Nat.le_trans sp_len (le_of (Nat.succ_le_succ hl) rfl)
    refine fExc FT151 rfl ?_; dsimp only [F151, List.map_cons, List.map_nil, List.length_cons, List.length_nil, Nat.reduceAdd, Nat.reduceSub, List.replicate, List.cons_append, List.nil_append, List.toList_toArray]
    decreasing_trivial
    decreasing_trivial
    decreasing_trivial
  obtain ⟨a, b, c, hp⟩ := three h3
  have c5 : ∀ σ : List TO, methB (KP P) σ .split (.str t) [.str [45]] = some (.ok (.loc σ.length), σ ++ [.list [.str a, .str b, .str c]]) := fun σ => by rw [mSplit hl', hp]; rfl
  have ok := sp_ok h hl (c := 45)
  rw [hp] at ok
  have oa := ok a (.head _)
  have ob := ok b (.tail _ (.head _))
  have oc := ok c (.tail _ (.tail _ (.head _)))
  clear ok
  have la := le_of (c := 100000) oa.2 rfl
  have lc := le_of (c := 100000) oc.2 rfl
  have la2 := le_of (c := 100) oa.2 rfl
  have lc2 := le_of (c := 100) oc.2 rfl
  have c1 := fun n d σ => q144 P n d σ a oa.1 oa.2
  by_cases h4 : figs a = true
  rotate_left
  · rw [dayR_no hp fun x => h4 x.1]
    rw [Bool.eq_false_iff.mpr h4] at c1
    refine fExc FT151 rfl ?_; dsimp only [F151, List.map_cons, List.map_nil, List.length_cons, List.length_nil, Nat.reduceAdd, Nat.reduceSub, List.replicate, List.cons_append, List.nil_append, List.toList_toArray]
    decreasing_trivial
    decreasing_trivial
    decreasing_trivial
  rw [h4] at c1
  have c2 := fun n d σ => q144 P n d σ c oc.1 oc.2
  by_cases h5 : figs c = true
  rotate_left
  · rw [dayR_no hp fun x => h5 x.2.1]
    rw [Bool.eq_false_iff.mpr h5] at c2
    refine fExc FT151 rfl ?_; dsimp only [F151, List.map_cons, List.map_nil, List.length_cons, List.length_nil, Nat.reduceAdd, Nat.reduceSub, List.replicate, List.cons_append, List.nil_append, List.toList_toArray]
    decreasing_trivial
    decreasing_trivial
    decreasing_trivial
  rw [h5] at c2
  by_cases h6 : a.length ≤ 2
  rotate_left
  · rw [dayR_no hp fun x => h6 x.2.2.1]
    have h6 : (2 : Int) < a.length := gt_nat h6
    refine fExc FT151 rfl ?_; dsimp only [F151, List.map_cons, List.map_nil, List.length_cons, List.length_nil, Nat.reduceAdd, Nat.reduceSub, List.replicate, List.cons_append, List.nil_append, List.toList_toArray]
    decreasing_trivial
    decreasing_trivial
    decreasing_trivial
  have h6i : ¬ (2 : Int) < a.length := le_nat h6
  by_cases h7 : c.length = 4
  rotate_left
  · rw [dayR_no hp fun x => h7 x.2.2.2.1]
    have h7 : ¬ (c.length : Int) = 4 := ne_nat h7
    refine fExc FT151 rfl ?_; dsimp only [F151, List.map_cons, List.map_nil, List.length_cons, List.length_nil, Nat.reduceAdd, Nat.reduceSub, List.replicate, List.cons_append, List.nil_append, List.toList_toArray]
    decreasing_trivial
    decreasing_trivial
    decreasing_trivial
  have h7i : (c.length : Int) = 4 := congrArg Nat.cast h7
  have c3 := fun n d σ => q139 P n d σ b ob.1 ob.2
  have c4 := fun n d σ => q134 P n d σ (figVal c) (mnum b) (figVal a)
  by_cases h8 : dayI (figVal c) (mnum b) (figVal a) = true
  · rw [dayR_yes hp ⟨h4, h5, h6, h7, h8⟩]
    rw [h8] at c4
    refine fRet FT151 rfl rfl ?_; dsimp only [F151, List.map_cons, List.map_nil, List.length_cons, List.length_nil, Nat.reduceAdd, Nat.reduceSub, List.replicate, List.cons_append, List.nil_append, List.toList_toArray]
    decreasing_trivial
    decreasing_trivial
    decreasing_trivial
    decreasing_trivial
    decreasing_trivial
  · rw [dayR_no hp fun x => h8 x.2.2.2.2]
    rw [Bool.eq_false_iff.mpr h8] at c4
    refine fExc FT151 rfl ?_; dsimp only [F151, List.map_cons, List.map_nil, List.length_cons, List.length_nil, Nat.reduceAdd, Nat.reduceSub, List.replicate, List.cons_append, List.nil_append, List.toList_toArray]
    decreasing_trivial
    decreasing_trivial
    decreasing_trivial
    decreasing_trivial
    decreasing_trivial
theorem q158 (t : List Nat) (h : ascii t = true) (hl : t.length ≤ 40) : match dayR t with
    | some (y, k, b) => evf P (n + 300) (d + 5) 158 [.str t] σ = some (.ok (.tup [.int y, .int k, .int b]), σ)
    | none => Raised (evf P (n + 300) (d + 5) 158 [.str t] σ) σ 59 0 := by
  have hl' := le_of (c := 100000) hl rfl
  have q := fun n => q151 P n d σ t h hl
  cases e : dayR t with
  | none =>
    rw [e] at q
    obtain ⟨ext, j, c1, f⟩ := q (n + 35)
    refine ⟨ext, j, fX FT158 rfl (evSs_retX ?_), f⟩; dsimp only [F158, List.map_cons, List.map_nil, List.length_cons, List.length_nil, Nat.reduceAdd, Nat.reduceSub, List.replicate, List.cons_append, List.nil_append, List.toList_toArray]
    decreasing_trivial_pre_omega
  | some x =>
    obtain ⟨y, k, b⟩ := x
    rw [e] at q
    have c1 : ∀ n, evf P (n + 260) (d + 4) 151 [.str t, .int 0, .int t.length] σ = _ := q
    refine fRet FT158 rfl rfl ?_; dsimp only [F158, List.map_cons, List.map_nil, List.length_cons, List.length_nil, Nat.reduceAdd, Nat.reduceSub, List.replicate, List.cons_append, List.nil_append, List.toList_toArray]
    decreasing_trivial
theorem dig_contains (c : Nat) : [48, 49, 50, 51, 52, 53, 54, 55, 56, 57].contains c = isFigN c := by
  rcases Nat.lt_or_ge c 58 with h | h
  · exact (by decide +kernel : ∀ c, c < 58 → [48, 49, 50, 51, 52, 53, 54, 55, 56, 57].contains c = isFigN c) c h
  · obtain ⟨k, rfl⟩ := Nat.exists_eq_add_of_le' h
    kernel_rfl
theorem figVal_lt : ∀ (l : List Nat) (a k : Nat), l.all isFigN = true → a < 10 ^ k → l.foldl (fun n c => n * 10 + (c - 48)) a < 10 ^ (k + l.length)
  | [], a, k, _, h => by simpa using h
  | c :: l, a, k, hf, h => by
    rw [List.all_cons, Bool.and_eq_true] at hf
    have hc : c ≤ 57 := by
      have := hf.1
      simp [isFigN] at this
      exact this.2
    rw [List.foldl_cons, List.length_cons, show k + (l.length + 1) = (k + 1) + l.length from (Nat.add_right_comm k 1 l.length).symm]
    refine figVal_lt l _ (k + 1) hf.2 ?_
    rw [Nat.pow_succ]
    exact Nat.lt_of_lt_of_le (Nat.add_lt_add_left (Nat.lt_succ_of_le (Nat.sub_le_sub_right hc 48)) (a * 10)) (Nat.le_trans (Nat.le_of_eq (Nat.succ_mul a 10).symm) (Nat.mul_le_mul_right 10 h))
theorem figVal_4 {c : List Nat} (h : c.all isFigN = true) (hl : c.length = 4) : figVal c ≤ 9999 := by
  have := figVal_lt c 0 0 h (by decide)
  rw [hl] at this
  exact Nat.le_of_lt_succ this
theorem mIdx_lt {b : List Nat} {k : Nat} (h : mIdx b = some k) : k < 12 := by
  unfold mIdx at h
  have := (List.findIdx?_eq_some_iff_findIdx_eq.mp h).1
  exact this
theorem fig_test2 {K : Frag} {FT : Addr → Option Fn} {k d : Nat} (x : Nat) : evT K FT (k + 20) d [some (.str [x])] (.cmp .nin (.var 0) (.const (.str [48, 49, 50, 51, 52, 53, 54, 55, 56, 57]))) σ = some (.ok (!isFigN x), σ) := by
  have c1 : ∀ σ, inA K σ (.str [x]) (.str [48, 49, 50, 51, 52, 53, 54, 55, 56, 57]) = some (isFigN x) := fun σ => congrArg some (dig_contains x)
  cases h : isFigN x
  · rw [h] at c1
    exact Eq.trans (b := some (.ok true, σ)) (by decreasing_trivial_pre_omega) rfl
  · rw [h] at c1
    exact Eq.trans (b := some (.ok false, σ)) (by decreasing_trivial_pre_omega) rfl
theorem len12 {a : List Nat} {b : Bool} {K : Frag} (h : (a != [] && Nat.ble a.length 2) = b) : inA K σ (.int (a.length : Nat)) (.tup [.int 1, .int 2]) = some b := by
  rw [← h]
  match a with
  | [] => rfl
  | [_] => rfl
  | [_, _] => rfl
  | _ :: _ :: _ :: l => exact congrArg some (by kernel_rfl)
theorem in_monV {K : Frag} {b : List Nat} {r : Bool} (ht : tupItems K (.val (.ref 425)) = some (monL.map .str)) (h : (mIdx b).isSome = r) : inA K σ (.str (b.map lowerN)) (.val (.ref 425)) = some r := by
  rw [in_val, ht, Option.bind_some, strsOf_map1]
  exact congrArg some (List.findIdx?_isSome.symm.trans h)
theorem q466 (t : List Nat) (h : ascii t = true) (hl : t.length ≤ 40) : evf P (n + 300) (d + 4) 466 [.str t] σ = some (.ok (dueAV t), σ) := by
  have hl' := le_of (c := 100000) hl rfl
  by_cases h3 : (splitL 45 t).length = 3
  rotate_left
  · have c5 : ∀ σ : List TO, methB (KP P) σ .split (.str t) [.str [45]] = some (.ok (.loc σ.length), σ ++ [.list ((splitL 45 t).map .str)]) := fun σ => mSplit hl'
    have := due_no (dayR_len h3)
    have h3 : ¬ (((splitL 45 t).map AV.str).length : Int) = 3 := by rw [List.length_map]; exact ne_nat h3
    have h2 : ((splitL 45 t).map AV.str).length ≤ 100000 := by rw [List.length_map]; exact Nat.le_trans sp_len (le_of (Nat.succ_le_succ hl) rfl)
    refine fRet FT466 rfl (due_free t) ?_; dsimp only [F466, List.map_cons, List.map_nil, List.length_cons, List.length_nil, Nat.reduceAdd, Nat.reduceSub, List.replicate, List.cons_append, List.nil_append, List.toList_toArray]
    decreasing_trivial
    decreasing_trivial
    decreasing_trivial
  obtain ⟨a, b, c, hp⟩ := three h3
  have c5 : ∀ σ : List TO, methB (KP P) σ .split (.str t) [.str [45]] = some (.ok (.loc σ.length), σ ++ [.list [.str a, .str b, .str c]]) := fun σ => by rw [mSplit hl', hp]; rfl
  have ok := sp_ok h hl (c := 45)
  rw [hp] at ok
  have oa := ok a (.head _)
  have ob := ok b (.tail _ (.head _))
  have oc := ok c (.tail _ (.tail _ (.head _)))
  clear ok
  have la := le_of (c := 100000) oa.2 rfl
  have lb := le_of (c := 100000) ob.2 rfl
  have lc := le_of (c := 100000) oc.2 rfl
  have la2 := le_of (c := 100) oa.2 rfl
  have lc2 := le_of (c := 100) oc.2 rfl
  cases h6 : (a != [] && Nat.ble a.length 2) with
  | false =>
    have c1 := fun σ => len12 (K := KP P) σ h6
    have := due_no (dayR_no hp fun x => by
      obtain ⟨z, _, z2, _⟩ := x
      rw [Nat.ble_eq_true_of_le z2, Bool.and_true] at h6
      rw [figs_eq, h6] at z
      cases z)
    refine fRet FT466 rfl (due_free t) ?_; dsimp only [F466, List.map_cons, List.map_nil, List.length_cons, List.length_nil, Nat.reduceAdd, Nat.reduceSub, List.replicate, List.cons_append, List.nil_append, List.toList_toArray]
    decreasing_trivial
    decreasing_trivial
    decreasing_trivial
  | true =>
  have c1 := fun σ => len12 (K := KP P) σ h6
  rw [Bool.and_eq_true] at h6
  have h6n := Nat.le_of_ble_eq_true h6.2
  by_cases h7 : c.length = 4
  rotate_left
  · have := due_no (dayR_no hp fun x => h7 x.2.2.2.1)
    have h7 : ¬ (c.length : Int) = 4 := ne_nat h7
    refine fRet FT466 rfl (due_free t) ?_; dsimp only [F466, List.map_cons, List.map_nil, List.length_cons, List.length_nil, Nat.reduceAdd, Nat.reduceSub, List.replicate, List.cons_append, List.nil_append, List.toList_toArray]
    decreasing_trivial
    decreasing_trivial
    decreasing_trivial
  have h7i : (c.length : Int) = 4 := congrArg Nat.cast h7
  have c2 : ∀ σ, methB (KP P) σ .lower (.str b) [] = some (.ok (.str (b.map lowerN)), σ) := fun σ => mLower ob.1 lb
  cases hk : mIdx b with
  | none =>
    have c3 := fun σ => in_monV (K := KP P) (b := b) (r := false) σ (t425 P) (congrArg Option.isSome hk)
    have := due_no (dayR_no hp fun x => by
      have z := x.2.2.2.2
      rw [mnum, hk] at z
      exact absurd (show (decide (1 ≤ ((figVal c : Nat) : Int)) && decide (((figVal c : Nat) : Int) ≤ 9999) && false && _) = true from z) (by rw [Bool.and_false]; exact Bool.noConfusion))
    refine fRet FT466 rfl (due_free t) ?_; dsimp only [F466, List.map_cons, List.map_nil, List.length_cons, List.length_nil, Nat.reduceAdd, Nat.reduceSub, List.replicate, List.cons_append, List.nil_append, List.toList_toArray]
    decreasing_trivial
    decreasing_trivial
    decreasing_trivial
  | some k =>
  have c3 := fun σ => in_monV (K := KP P) (b := b) (r := true) σ (t425 P) (congrArg Option.isSome hk)
  have hac : ascii (a ++ c) = true := by rw [ascii, List.all_append, Bool.and_eq_true]; exact ⟨oa.1, oc.1⟩
  have hlen : (a ++ c).length ≤ 80 := by rw [List.length_append]; exact Nat.add_le_add oa.2 oc.2
  have lac : a.length + c.length ≤ 100000 := by rw [← List.length_append]; exact le_of hlen rfl
  have k1 : ∀ k, 200 ≤ k → ∀ σ, evComp (KP P) FT k (d + 3) (.var 0) (some (.cmp .nin (.var 0) (.const (.str [48, 49, 50, 51, 52, 53, 54, 55, 56, 57])))) ((a ++ c).map fun c => .str [c]) σ = some (.ok (noFig (a ++ c)), σ) := fun k hk σ => comp_filterL (c := 20) hlen rfl hk (fun c _ k => fig_test2 σ c) (fun c _ k => by decreasing_trivial_pre_omega)
  have h1 := noFig_plain _ hac
  have h2 := noFig_frees (a ++ c)
  have h4 := Nat.le_trans (noFig_len (a ++ c)) (le_of (c := 100000) hlen rfl)
  have c4 : ∀ σ, iterA (KP P) σ (.str (a ++ c)) = some ((a ++ c).map fun c => .str [c]) := fun σ => if_pos hac
  have hall : (noFig (a ++ c)).isEmpty = (a.all isFigN && c.all isFigN) := by rw [noFig_all, List.all_append]
  have na := h6.1
  have nc : (c != []) = true := by cases c with
    | nil => cases h7
    | cons _ _ => rfl
  cases hf : (noFig (a ++ c)).isEmpty with
  | false =>
    have hf2 : (!(noFig (a ++ c)).isEmpty) = true := by rw [hf]; rfl
    have := due_no (dayR_no hp fun x => by
      have z1 := x.1
      have z2 := x.2.1
      rw [figs_eq, na, Bool.true_and] at z1
      rw [figs_eq, nc, Bool.true_and] at z2
      rw [hall, z1, z2] at hf
      cases hf)
    refine fRet FT466 rfl (due_free t) ?_; dsimp only [F466, List.map_cons, List.map_nil, List.length_cons, List.length_nil, Nat.reduceAdd, Nat.reduceSub, List.replicate, List.cons_append, List.nil_append, List.toList_toArray]
    decreasing_trivial
    decreasing_trivial
    decreasing_trivial
    decreasing_trivial
  | true =>
  have hf2 : (!(noFig (a ++ c)).isEmpty) = false := by rw [hf]; rfl
  rw [hall, Bool.and_eq_true] at hf
  have hfa : figs a = true := by rw [figs_eq, na, hf.1]; rfl
  have hfc : figs c = true := by rw [figs_eq, nc, hf.2]; rfl
  have h9 := figVal_4 hf.2 h7
  have hmn : mnum b = (k : Int) + 1 := by rw [mnum, hk]
  have hk12 := mIdx_lt hk
  have c6 : ∀ σ, methB (KP P) σ .index (.val (.ref 425)) [.str (b.map lowerN)] = some (.ok (.int k), σ) := fun σ => mIdxV (t425 P) (strsOf_map1 _) hk
  have c7 := fun n d σ => q461 P n d σ (figVal c) (k + 1)
  have hd : dayI (figVal c) (mnum b) (figVal a) = (decide (0 < (figVal c : Int)) && (decide (1 ≤ (figVal a : Int)) && decide ((figVal a : Int) ≤ longI (figVal c) (k + 1)))) := by
    rw [dayI, hmn, decide_eq_true (show ((figVal c : Nat) : Int) ≤ 9999 from Int.ofNat_le.mpr h9), decide_eq_true (show (1 : Int) ≤ (k : Int) + 1 from Int.add_le_add_right (Int.natCast_nonneg k) 1), decide_eq_true (show (k : Int) + 1 ≤ 12 from Int.ofNat_le.mpr hk12), Bool.and_true, Bool.and_true, Bool.and_true]
    rfl
  refine fRet FT466 rfl (due_free t) ?_; dsimp only [F466, List.map_cons, List.map_nil, List.length_cons, List.length_nil, Nat.reduceAdd, Nat.reduceSub, List.replicate, List.cons_append, List.nil_append, List.toList_toArray]
  decreasing_trivial
  decreasing_trivial
  decreasing_trivial
  decreasing_trivial
  by_cases h10 : 0 < (figVal c : Int)
  rotate_left
  · have := due_no (dayR_no hp fun x => by
      have z := x.2.2.2.2
      rw [hd, decide_eq_false h10] at z
      cases z)
    decreasing_trivial
  by_cases h11 : 1 ≤ (figVal a : Int)
  rotate_left
  · have := due_no (dayR_no hp fun x => by
      have z := x.2.2.2.2
      rw [hd, decide_eq_true h10, decide_eq_false h11] at z
      cases z)
    decreasing_trivial
  by_cases h12 : (figVal a : Int) ≤ longI (figVal c) (k + 1)
  · have := due_yes (dayR_yes hp ⟨hfa, hfc, h6n, h7, by rw [hd, decide_eq_true h10, decide_eq_true h11, decide_eq_true h12]; rfl⟩)
    rw [hmn] at this
    decreasing_trivial
  · have := due_no (dayR_no hp fun x => by
      have z := x.2.2.2.2
      rw [hd, decide_eq_true h10, decide_eq_true h11, decide_eq_false h12] at z
      cases z)
    decreasing_trivial
end
section
variable {K : Frag} {σ : List TO}
theorem in_by {c : UInt8} {l : List UInt8} : inA K σ (.int (c.toNat : Int)) (.bytes l) = some (l.contains c) := by
  unfold inA
  dsimp only
  rw [if_pos ⟨Int.natCast_nonneg _, Int.ofNat_lt.mpr c.toNat_lt⟩, Int.toNat_natCast, UInt8.ofNat_toNat]
end
noncomputable def pk (D : List UInt8) (a : Int) : Int := match D[a.toNat]? with
  | some c => (c.toNat : Int)
  | none => -1
theorem pk_some {D : List UInt8} {a : Int} {c : UInt8} (h : D[a.toNat]? = some c) : AV.int (c.toNat : Nat) = AV.int (pk D a) := by rw [pk, h]
theorem toNat_lt {a : Int} {n : Nat} (h0 : 0 ≤ a) : a < n ↔ a.toNat < n := by rw [Int.toNat_lt h0]

section
variable (P : Params) (n d : Nat) (m : Lo) (σ s τ : List TO)
theorem q264 (D : List UInt8) (a : Int) (ha : 0 ≤ a) (hl : D.length ≤ 100000) : evf P (n + 40) (d + 1) 264 [.wire s.length] (s ++ .wire D a :: τ) = some (.ok (.int (pk D a)), s ++ .wire D a :: τ) := by
  refine fRet FT264 rfl rfl ?_; dsimp only [F264, List.map_cons, List.map_nil, List.length_cons, List.length_nil, Nat.reduceAdd, Nat.reduceSub, List.replicate, List.cons_append, List.nil_append, List.toList_toArray]
  by_cases h : a < D.length
  · have hk := (toNat_lt ha).mp h
    have e : D[a.toNat]? = some D[a.toNat] := List.getElem?_eq_getElem hk
    have e2 := pk_some e
    have e3 : 0 ≤ a ∧ D.length ≤ 100000 := ⟨ha, hl⟩
    decreasing_trivial
  · have e : AV.int (-1) = AV.int (pk D a) := by rw [pk, List.getElem?_eq_none (Nat.le_of_not_lt fun x => h ((toNat_lt ha).mpr x))]
    decreasing_trivial
theorem at_add (a : Int) (ha : 0 ≤ a) (k : Nat) : (a + k).toNat = a.toNat + k := by rw [Int.toNat_add ha (Int.natCast_nonneg k), Int.toNat_natCast]
theorem q271 (D o : List UInt8) (a : Int) (ha : 0 ≤ a) (hl : D.length ≤ 100000) (ho : o.length ≤ 100000) : evf P (n + 60) (d + 1) 271 [.wire s.length, .bytes o] (s ++ .wire D a :: τ) =
    if (D.take (a.toNat + o.length)).drop a.toNat = o then some (.ok (.bool true), s ++ .wire D (a + o.length) :: τ) else some (.ok (.bool false), s ++ .wire D a :: τ) := by
  rw [← at_add a ha]
  have e : 0 ≤ a ∧ 0 ≤ a + (o.length : Int) ∧ D.length ≤ 100000 := ⟨ha, Int.add_nonneg ha (Int.natCast_nonneg _), hl⟩
  by_cases h : (D.take (a + o.length).toNat).drop a.toNat = o
  · rw [if_pos h]
    refine fRet FT271 rfl rfl ?_; dsimp only [F271, List.map_cons, List.map_nil, List.length_cons, List.length_nil, Nat.reduceAdd, Nat.reduceSub, List.replicate, List.cons_append, List.nil_append, List.toList_toArray]
    decreasing_trivial
    decreasing_trivial
    decreasing_trivial
  · rw [if_neg h]
    refine fRet FT271 rfl rfl ?_; dsimp only [F271, List.map_cons, List.map_nil, List.length_cons, List.length_nil, Nat.reduceAdd, Nat.reduceSub, List.replicate, List.cons_append, List.nil_append, List.toList_toArray]
    decreasing_trivial
    decreasing_trivial
theorem q278 (D o : List UInt8) (w : List Nat) (a : Int) (ha : 0 ≤ a) (hl : D.length ≤ 100000) (ho : o.length ≤ 100000) (h : (D.take (a.toNat + o.length)).drop a.toNat = o) : evf P (n + 90) (d + 2) 278 [.wire s.length, .bytes o, .str w] (s ++ .wire D a :: τ) =
    some (.ok .none, s ++ .wire D (a + o.length) :: τ) := by
  have c1 : ∀ n d, evf P (n + 60) (d + 1) 271 [.wire s.length, .bytes o] (s ++ .wire D a :: τ) = some (.ok (.bool true), s ++ .wire D (a + o.length) :: τ) := fun n d => (q271 P n d s τ D o a ha hl ho).trans (if_pos h)
  refine fNxt FT278 rfl ?_; dsimp only [F278, List.map_cons, List.map_nil, List.length_cons, List.length_nil, Nat.reduceAdd, Nat.reduceSub, List.replicate, List.cons_append, List.nil_append, List.toList_toArray]
  decreasing_trivial
  decreasing_trivial
theorem q285 (D : List UInt8) (hl : D.length + 1 ≤ 100000) : evf P (n + 120) (d + 3) 285 [.wire s.length] (s ++ .wire (32 :: D) 0 :: τ) =
    some (.ok .none, s ++ .wire (32 :: D) 1 :: τ) := by
  have c1 : ∀ n d w, evf P (n + 90) (d + 2) 278 [.wire s.length, .bytes [32], .str w] (s ++ .wire (32 :: D) 0 :: τ) = some (.ok .none, s ++ .wire (32 :: D) 1 :: τ) := fun n d w => q278 P n d s τ (32 :: D) [32] w 0 (Int.le_refl 0) hl (by decide) rfl
  refine fNxt FT285 rfl ?_; dsimp only [F285, List.map_cons, List.map_nil, List.length_cons, List.length_nil, Nat.reduceAdd, Nat.reduceSub, List.replicate, List.cons_append, List.nil_append, List.toList_toArray]
  decreasing_trivial
  decreasing_trivial
theorem rg_T {c l h : Nat} {b : Bool} (e : (decide (l ≤ c) && decide (c ≤ h)) = b) : b = true → (l : Int) ≤ c ∧ (c : Int) ≤ h := fun x => by
  rw [x, Bool.and_eq_true, decide_eq_true_eq, decide_eq_true_eq] at e
  exact ⟨Int.ofNat_le.mpr e.1, Int.ofNat_le.mpr e.2⟩
theorem rg_F {c l h : Nat} {b : Bool} (e : (decide (l ≤ c) && decide (c ≤ h)) = b) (x : b = false) (z : (l : Int) ≤ c) : ¬ (c : Int) ≤ h := fun y => by
  rw [x, decide_eq_true (Int.ofNat_le.mp z), decide_eq_true (Int.ofNat_le.mp y)] at e
  cases e
theorem q200 (c : UInt8) : evf P (n + 30) (d + 1) 200 [.int (c.toNat : Int)] σ = some (.ok (.bool (decide (33 ≤ c.toNat) && decide (c.toNat ≤ 126))), σ) := by
  refine fRet FT200 rfl rfl ?_; dsimp only [F200, List.map_cons, List.map_nil, List.length_cons, List.length_nil, Nat.reduceAdd, Nat.reduceSub, List.replicate, List.cons_append, List.nil_append, List.toList_toArray]
  cases e : (decide (33 ≤ c.toNat) && decide (c.toNat ≤ 126)) with
  | true =>
    have h1 : (33 : Int) ≤ c.toNat := (rg_T e rfl).1
    have h2 : (c.toNat : Int) ≤ 126 := (rg_T e rfl).2
    decreasing_trivial
  | false =>
    by_cases h1 : (33 : Int) ≤ c.toNat
    · have h2 : ¬ (c.toNat : Int) ≤ 126 := rg_F e rfl h1
      decreasing_trivial
    · decreasing_trivial
noncomputable def isAtomC (c : UInt8) : Bool := decide (33 ≤ c.toNat) && decide (c.toNat ≤ 126) && !([40, 41, 123, 37, 42, 34, 92, 93] : List UInt8).contains c
theorem q207 (c : UInt8) : evf P (n + 60) (d + 2) 207 [.int (c.toNat : Int)] σ = some (.ok (.bool (isAtomC c)), σ) := by
  have e : ∀ b, isAtomC c = b → AV.bool b = AV.bool (isAtomC c) := fun b h => by rw [h]
  have c1 := fun n d σ => q200 P n d σ c
  have c2 := fun σ => in_by (K := KP P) (σ := σ) (c := c) (l := [40, 41, 123, 37, 42, 34, 92, 93])
  refine fRet FT207 rfl rfl ?_; dsimp only [F207, List.map_cons, List.map_nil, List.length_cons, List.length_nil, Nat.reduceAdd, Nat.reduceSub, List.replicate, List.cons_append, List.nil_append, List.toList_toArray]
  cases h1 : (decide (33 ≤ c.toNat) && decide (c.toNat ≤ 126)) with
  | false =>
    rw [h1] at c1
    have := e false (by rw [isAtomC, h1]; rfl)
    decreasing_trivial
  | true =>
    rw [h1] at c1
    cases h2 : ([40, 41, 123, 37, 42, 34, 92, 93] : List UInt8).contains c with
    | true =>
      rw [h2] at c2
      have := e false (by rw [isAtomC, h1, h2]; rfl)
      decreasing_trivial
    | false =>
      rw [h2] at c2
      have := e true (by rw [isAtomC, h1, h2]; rfl)
      decreasing_trivial
noncomputable def isAstC (c : UInt8) : Bool := isAtomC c || decide (c = 93)
theorem u8_int {c : UInt8} {k : UInt8} (h : c ≠ k) : ¬ (c.toNat : Int) = (k.toNat : Int) := fun e => h (UInt8.toNat_inj.mp (Int.ofNat.inj e))
theorem q214 (c : UInt8) : evf P (n + 90) (d + 3) 214 [.int (c.toNat : Int)] σ = some (.ok (.bool (isAstC c)), σ) := by
  have e : ∀ b, isAstC c = b → AV.bool b = AV.bool (isAstC c) := fun b h => by rw [h]
  have c1 := fun n d σ => q207 P n d σ c
  refine fRet FT214 rfl rfl ?_; dsimp only [F214, List.map_cons, List.map_nil, List.length_cons, List.length_nil, Nat.reduceAdd, Nat.reduceSub, List.replicate, List.cons_append, List.nil_append, List.toList_toArray]
  cases h1 : isAtomC c with
  | true =>
    rw [h1] at c1
    have := e true (by rw [isAstC, h1]; rfl)
    decreasing_trivial
  | false =>
    rw [h1] at c1
    by_cases h2 : c = 93
    · have h3 : (c.toNat : Int) = 93 := by rw [h2]; rfl
      have := e true (by rw [isAstC, h1, decide_eq_true h2]; rfl)
      decreasing_trivial
    · have h3 : ¬ (c.toNat : Int) = 93 := u8_int h2
      have := e false (by rw [isAstC, h1, decide_eq_false h2]; rfl)
      decreasing_trivial
noncomputable def isFigC (c : UInt8) : Bool := decide (48 ≤ c.toNat) && decide (c.toNat ≤ 57)
theorem q228 (c : UInt8) : evf P (n + 30) (d + 1) 228 [.int (c.toNat : Int)] σ = some (.ok (.bool (isFigC c)), σ) := by
  refine fRet FT228 rfl rfl ?_; dsimp only [F228, List.map_cons, List.map_nil, List.length_cons, List.length_nil, Nat.reduceAdd, Nat.reduceSub, List.replicate, List.cons_append, List.nil_append, List.toList_toArray]
  cases e : isFigC c with
  | true =>
    have h1 : (48 : Int) ≤ c.toNat := (rg_T e rfl).1
    have h2 : (c.toNat : Int) ≤ 57 := (rg_T e rfl).2
    decreasing_trivial
  | false =>
    by_cases h1 : (48 : Int) ≤ c.toNat
    · have h2 : ¬ (c.toNat : Int) ≤ 57 := rg_F e rfl h1
      decreasing_trivial
    · decreasing_trivial
theorem q235 (x y : UInt8) : evf P (n + 60) (d + 1) 235 [.bytes [x, y]] σ = some (.ok (.int (((x.toNat : Int) - 48) * 10 + y.toNat - 48)), σ) := by
  have e : AV.int (((0 : Int) * 10 + x.toNat - 48) * 10 + y.toNat - 48) = AV.int (((x.toNat : Int) - 48) * 10 + y.toNat - 48) := by rw [Int.zero_mul, Int.zero_add]
  refine fRet FT235 rfl rfl ?_; dsimp only [F235, List.map_cons, List.map_nil, List.length_cons, List.length_nil, Nat.reduceAdd, Nat.reduceSub, List.replicate, List.cons_append, List.nil_append, List.toList_toArray]
  decreasing_trivial
  apply bFor
  · decreasing_trivial_pre_omega
  · exact rfl
  · apply fCons
    · exact rfl
    · decreasing_trivial
      decreasing_trivial
    · apply fCons
      · exact rfl
      · decreasing_trivial
        decreasing_trivial
      · exact fNil
  · decreasing_trivial
end
noncomputable def adv (a : Int) : Nat → Int
  | 0 => a
  | j + 1 => adv a j + 1
theorem adv_eq (a : Int) : ∀ j : Nat, adv a j = a + j
  | 0 => (Int.add_zero a).symm
  | j + 1 => by rw [adv, adv_eq a j, Int.add_assoc]; rfl
theorem adv_nn {a : Int} (h : 0 ≤ a) (j : Nat) : 0 ≤ adv a j := adv_eq a j ▸ Int.add_nonneg h (Int.natCast_nonneg j)
theorem adv_nat {a : Int} (h : 0 ≤ a) (j : Nat) : (adv a j).toNat = a.toNat + j := by rw [adv_eq, at_add a h]
theorem get_lt {D : List UInt8} {k : Nat} {c : UInt8} (h : D[k]? = some c) : k < D.length := (List.getElem?_eq_some_iff.mp h).1

section
variable (P : Params) (n d : Nat) (m : Lo) (σ s τ : List TO)
theorem q299 (f : Addr) (p : UInt8 → Bool) (hf : ∀ n d σ (c : UInt8), evf P (n + 90) (d + 3) f [.int (c.toNat : Int)] σ = some (.ok (.bool (p c)), σ)) (hfn : notC f = true)
    (D : List UInt8) (a : Int) (r : Nat) (ha : 0 ≤ a) (hl : D.length ≤ 100000) (hr : r ≤ 50) (h0 : ∀ j, j < r → ∃ c, D[a.toNat + j]? = some c ∧ p c = true) (h1 : D[a.toNat + r]? = none ∨ ∃ c, D[a.toNat + r]? = some c ∧ p c = false) :
    evf P (n + 200) (d + 4) 299 [.wire s.length, .val (.ref f)] (s ++ [.wire D a]) = some (.ok (.bytes ((D.take (a.toNat + r)).drop a.toNat)), s ++ [.wire D (a + r)]) := by
  have nn := adv_nn ha
  have an := adv_nat ha
  rw [← an, ← adv_eq]
  refine fRet FT299 rfl rfl ?_; dsimp only [F299, List.map_cons, List.map_nil, List.length_cons, List.length_nil, Nat.reduceAdd, Nat.reduceSub, List.replicate, List.cons_append, List.nil_append, List.toList_toArray]
  decreasing_trivial
  apply bWhil
  · refine whilL (C := 120) (fun j => ([some (.wire s.length), some (.val (.ref f)), some (.int a), none], s ++ [.wire D (adv a j)])) hr (e := 171) rfl ?_ ?_ ?_
    · exact fle rfl
    · intro j hj N
      obtain ⟨c, hc, hp⟩ := h0 j hj
      rw [← an] at hc
      have c1 : ∀ n d σ, evf P (n + 90) (d + 3) f [.int (c.toNat : Int)] σ = some (.ok (.bool true), σ) := fun n d σ => hp ▸ hf n d σ c
      have e : adv a j < D.length := (toNat_lt (nn j)).mpr (get_lt hc)
      have e2 : 0 ≤ adv a j ∧ D.length ≤ 100000 := ⟨nn j, hl⟩
      constructor
      · dsimp only
        decreasing_trivial_pre_omega
      · dsimp only
        decreasing_trivial
        exact bNxtE
    · intro N
      dsimp only
      by_cases e : adv a r < D.length
      · rcases h1 with h1 | ⟨c, hc, hp⟩
        · exact absurd ((toNat_lt (nn r)).mp e) (Nat.not_lt.mpr (an r ▸ List.getElem?_eq_none_iff.mp h1))
        · rw [← an] at hc
          have c1 : ∀ n d σ, evf P (n + 90) (d + 3) f [.int (c.toNat : Int)] σ = some (.ok (.bool false), σ) := fun n d σ => hp ▸ hf n d σ c
          have e2 : 0 ≤ adv a r ∧ D.length ≤ 100000 := ⟨nn r, hl⟩
          decreasing_trivial_pre_omega
      · decreasing_trivial_pre_omega
  · have e2 : 0 ≤ a ∧ 0 ≤ adv a r ∧ D.length ≤ 100000 := ⟨ha, nn r, hl⟩
    dsimp only
    decreasing_trivial
noncomputable def quoC (c : UInt8) : Bool := decide (1 ≤ c.toNat) && decide (c.toNat ≤ 127) && decide (c ≠ 34) && decide (c ≠ 92) && decide (c ≠ 13) && decide (c ≠ 10)
theorem quo_of {K : Frag} {c : UInt8} (h : quoC c = true) : ¬ (c.toNat : Int) < 1 ∧ ¬ (127 : Int) < c.toNat ∧ ¬ (c.toNat : Int) = 34 ∧ ¬ (c.toNat : Int) = 92 ∧ (∀ σ, cmpA K σ .inn (.int c.toNat) (.bytes [13, 10]) = some false) := by
  simp only [quoC, Bool.and_eq_true, decide_eq_true_eq] at h
  obtain ⟨⟨⟨⟨⟨p1, p2⟩, p3⟩, p4⟩, p5⟩, p6⟩ := h
  exact ⟨Int.not_lt.mpr (Int.ofNat_le.mpr p1), Int.not_lt.mpr (Int.ofNat_le.mpr p2), u8_int p3, u8_int p4, fun σ => (in_by (K := K) (σ := σ)).trans (by simp [p5, p6])⟩
theorem app_at {K : Frag} {w : TO} {b : List UInt8} {c : UInt8} (h : b.length ≤ 100000) : methB K (s ++ [w, .barr b]) .append (.loc (s.length + 1)) [.int c.toNat] = some (.ok .none, s ++ [w, .barr (b ++ [c])]) := by
  rw [mAppend (b := b) (gAt rfl) ⟨Int.natCast_nonneg _, Int.ofNat_lt.mpr c.toNat_lt, h⟩, setL, Int.toNat_natCast, UInt8.ofNat_toNat]; rfl
theorem q355 (t rest : List UInt8) (hl : t.length ≤ 50) (hrest : rest.length ≤ 50) (hq : t.all quoC = true) :
    evf P (n + 400) (d + 4) 355 [.wire s.length] (s ++ [.wire (32 :: 34 :: (t ++ 34 :: rest)) 1]) = some (.ok (.bytes t), s ++ [.wire (32 :: 34 :: (t ++ 34 :: rest)) (t.length + 3)]) := by
  have hDD : (32 :: 34 :: (t ++ 34 :: rest) : List UInt8).length ≤ 100000 := by
    rw [List.length_cons, List.length_cons, List.length_append, List.length_cons]
    exact le_of (Nat.succ_le_succ (Nat.succ_le_succ (Nat.add_le_add hl (Nat.succ_le_succ hrest)))) rfl
  have get : ∀ j, j < t.length → ∃ c, (32 :: 34 :: (t ++ 34 :: rest) : List UInt8)[2 + j]? = some c ∧ t[j]? = some c ∧ quoC c = true := fun j hj => by
    have e : t[j]? = some t[j] := List.getElem?_eq_getElem hj
    refine ⟨t[j], ?_, e, (List.all_eq_true.mp hq) _ (List.getElem_mem hj)⟩
    rw [Nat.add_comm 2 j]
    exact (List.getElem?_append_left hj).trans e
  have get1 : (32 :: 34 :: (t ++ 34 :: rest) : List UInt8)[2 + t.length]? = some 34 := by
    rw [Nat.add_comm]
    exact (getL0 t (34 :: rest)).trans rfl
  have hs : ((32 :: 34 :: (t ++ 34 :: rest) : List UInt8).take 2).drop 1 = [34] := rfl
  generalize (32 :: 34 :: (t ++ 34 :: rest) : List UInt8) = D at hDD get get1 hs ⊢
  have c1 : ∀ n d w, evf P (n + 90) (d + 2) 278 [.wire s.length, .bytes [34], .str w] (s ++ [.wire D 1]) = some (.ok .none, s ++ [.wire D 2]) := fun n d w => q278 P n d s [] D [34] w 1 (by decide) hDD (by decide) hs
  have c2 : callB (s ++ [.wire D 2]) (.type "bytearray") [] = some (.ok (.loc (s.length + 1)), s ++ [.wire D 2, .barr []]) := by
    unfold callB
    rw [if_neg (by simp), if_neg (by simp), if_neg (by simp), if_neg (by simp), if_pos rfl]
    simp
  have nn := adv_nn (a := 2) (by decide)
  have an : ∀ j, (adv 2 j).toNat = 2 + j := adv_nat (a := 2) (by decide)
  have pk1 : ∀ j c, D[2 + j]? = some c → ∀ n d b, evf P (n + 40) (d + 1) 264 [.wire s.length] (s ++ [.wire D (adv 2 j), .barr b]) = some (.ok (.int c.toNat), s ++ [.wire D (adv 2 j), .barr b]) := fun j c h n d b => by
    rw [← an] at h
    exact (q264 P n d s [.barr b] D (adv 2 j) (nn j) hDD).trans (by rw [← pk_some h])
  refine fRet FT355 rfl rfl ?_; dsimp only [F355, List.map_cons, List.map_nil, List.length_cons, List.length_nil, Nat.reduceAdd, Nat.reduceSub, List.replicate, List.cons_append, List.nil_append, List.toList_toArray]
  decreasing_trivial
  decreasing_trivial
  apply bWhil
  · refine whilL (C := 200) (fun j => ([some (.wire s.length), some (.loc (s.length + 1)), none, none, none, none, none], s ++ [.wire D (adv 2 j), .barr (t.take j)])) hl (e := 251) rfl ?_ ?_ ?_
    · exact fle rfl
    · intro j hj N
      obtain ⟨c, hc, ht, hp⟩ := get j hj
      have c1 := pk1 j c hc
      obtain ⟨i1, i2, i3, i4, c2⟩ := quo_of (K := KP P) hp
      have c3 := app_at (K := KP P) s (w := .wire D (adv 2 j)) (c := c) (b := t.take j) (Nat.le_trans (List.length_take_le _ _) (le_of (Nat.le_trans (Nat.le_of_lt hj) hl) rfl))
      have e7 : t.take (j + 1) = t.take j ++ [c] := by rw [List.take_add_one, ht]; rfl
      have c1' : ∀ n d b, evf P (n + 40) (d + 1) 264 [.wire s.length] (s ++ [.wire D (adv 2 j), .barr b]) = some (.ok (.int c.toNat), s ++ [.wire D (adv 2 j), .barr b]) := c1
      constructor
      · dsimp only
        decreasing_trivial_pre_omega
      · dsimp only
        rw [e7]
        decreasing_trivial
        decreasing_trivial
        decreasing_trivial
        decreasing_trivial
        exact bNxtE
    · intro N
      have c1 := pk1 _ _ get1
      have i3 : ((34 : UInt8).toNat : Int) = 34 := rfl
      dsimp only
      decreasing_trivial_pre_omega
  · dsimp only
    rw [List.take_length]
    have e : adv 2 t.length + 1 = t.length + 3 := by rw [adv_eq, Int.add_comm 2, Int.add_assoc]; rfl
    have hl' := le_of (c := 100000) hl rfl
    rw [← e]
    have c1 : callB (s ++ [.wire D (adv 2 t.length + 1), .barr t]) (.type "bytes") [.loc (s.length + 1)] = some (.ok (.bytes t), s ++ [.wire D (adv 2 t.length + 1), .barr t]) := oBytR (gAt rfl) hl'
    have e3 : (s ++ [TO.wire D (adv 2 t.length + 1), TO.barr t]).take (s ++ [TO.wire D 1]).length = s ++ [TO.wire D (adv 2 t.length + 1)] := by rw [List.length_append, takeLk]; rfl
    decreasing_trivial
    decreasing_trivial
theorem q362 (x y : UInt8) (t rest : List UInt8) (hl : t.length ≤ 50) (hrest : rest.length ≤ 50) (hx : isFigC x = true) (hy : isFigC y = true) (hn : ((x.toNat : Int) - 48) * 10 + y.toNat - 48 = t.length) :
    evf P (n + 300) (d + 6) 362 [.wire s.length] (s ++ [.wire (32 :: 123 :: x :: y :: 43 :: 125 :: 13 :: 10 :: (t ++ rest)) 1]) = some (.ok (.bytes t), s ++ [.wire (32 :: 123 :: x :: y :: 43 :: 125 :: 13 :: 10 :: (t ++ rest)) (8 + t.length)]) := by
  have hD : (32 :: 123 :: x :: y :: 43 :: 125 :: 13 :: 10 :: (t ++ rest) : List UInt8).length ≤ 100000 := by
    rw [show (32 :: 123 :: x :: y :: 43 :: 125 :: 13 :: 10 :: (t ++ rest) : List UInt8).length = (t ++ rest).length + 8 from rfl, List.length_append]
    exact le_of (Nat.add_le_add_right (Nat.add_le_add hl hrest) 8) rfl
  have e1 : ¬ ((32 :: 123 :: x :: y :: 43 :: 125 :: 13 :: 10 :: (t ++ rest) : List UInt8).length : Int) < 8 + t.length := by
    rw [show (32 :: 123 :: x :: y :: 43 :: 125 :: 13 :: 10 :: (t ++ rest) : List UInt8).length = (t ++ rest).length + 8 from rfl, List.length_append]
    exact Int.not_lt.mpr (Int.ofNat_le.mpr (by rw [Nat.add_comm 8]; exact Nat.add_le_add_right (Nat.le_add_right _ _) 8) : ((8 + t.length : Nat) : Int) ≤ _)
  have hsl : ((32 :: 123 :: x :: y :: 43 :: 125 :: 13 :: 10 :: (t ++ rest) : List UInt8).take ((8 : Int) + t.length).toNat).drop (8 : Int).toNat = t := by
    rw [at_add 8 (by decide), Nat.add_comm]
    exact takeL t rest
  have hrun : ∀ n d, evf P (n + 200) (d + 4) 299 [.wire s.length, .val (.ref 228)] (s ++ [.wire (32 :: 123 :: x :: y :: 43 :: 125 :: 13 :: 10 :: (t ++ rest)) 2]) = some (.ok (.bytes [x, y]), s ++ [.wire (32 :: 123 :: x :: y :: 43 :: 125 :: 13 :: 10 :: (t ++ rest)) 4]) := fun n d => q299 P n d s 228 isFigC (fun n d σ c => q228 P (n + 60) (d + 2) σ c) rfl _ 2 2 (by decide) hD (by decide) (fun j hj => by
    rcases (by decide : ∀ j, j < 2 → j = 0 ∨ j = 1) j hj with rfl | rfl
    · exact ⟨x, rfl, hx⟩
    · exact ⟨y, rfl, hy⟩) (.inr ⟨43, rfl, by decide⟩)
  have s1 : ((32 :: 123 :: x :: y :: 43 :: 125 :: 13 :: 10 :: (t ++ rest) : List UInt8).take 2).drop 1 = [123] := rfl
  have s2 : ((32 :: 123 :: x :: y :: 43 :: 125 :: 13 :: 10 :: (t ++ rest) : List UInt8).take 5).drop 4 = [43] := rfl
  have s3 : ((32 :: 123 :: x :: y :: 43 :: 125 :: 13 :: 10 :: (t ++ rest) : List UInt8).take 8).drop 5 = [125, 13, 10] := rfl
  generalize (32 :: 123 :: x :: y :: 43 :: 125 :: 13 :: 10 :: (t ++ rest) : List UInt8) = D at *
  have c1 : ∀ n d w, evf P (n + 90) (d + 2) 278 [.wire s.length, .bytes [123], .str w] (s ++ [.wire D 1]) = some (.ok .none, s ++ [.wire D 2]) := fun n d w => q278 P n d s [] D [123] w 1 (by decide) hD (by decide) s1
  have c2 := hrun
  have c3 : ∀ n d, evf P (n + 60) (d + 1) 271 [.wire s.length, .bytes [43]] (s ++ [.wire D 4]) = some (.ok (.bool true), s ++ [.wire D 5]) := fun n d => (q271 P n d s [] D [43] 4 (by decide) hD (by decide)).trans (if_pos s2)
  have c4 : ∀ n d w, evf P (n + 90) (d + 2) 278 [.wire s.length, .bytes ([125] ++ [13, 10]), .str w] (s ++ [.wire D 5]) = some (.ok .none, s ++ [.wire D 8]) := fun n d w => q278 P n d s [] D [125, 13, 10] w 5 (by decide) hD (by decide) s3
  have c5 : ∀ n d σ, evf P (n + 60) (d + 1) 235 [.bytes [x, y]] σ = some (.ok (.int t.length), σ) := fun n d σ => hn ▸ q235 P n d σ x y
  have e2 : 0 ≤ (8 : Int) ∧ 0 ≤ (8 : Int) + t.length ∧ D.length ≤ 100000 := ⟨by decide, Int.add_nonneg (by decide) (Int.natCast_nonneg _), hD⟩
  have e6 : AV.bytes ((D.take ((8 : Int) + t.length).toNat).drop (8 : Int).toNat) = AV.bytes t := by rw [hsl]
  have e5 : ([125] : List UInt8).length + ([13, 10] : List UInt8).length ≤ 100000 := by decide
  have e7 : ¬ ([x, y].length : Int) = 0 := by rw [show [x, y].length = 2 from rfl]; decide
  have e8 : ¬ (10 : Int) < [x, y].length := by rw [show [x, y].length = 2 from rfl]; decide
  have e4 : [x, y].length ≤ 100000 := Nat.le_of_ble_eq_true rfl
  refine fRet FT362 rfl rfl ?_; dsimp only [F362, List.map_cons, List.map_nil, List.length_cons, List.length_nil, Nat.reduceAdd, Nat.reduceSub, List.replicate, List.cons_append, List.nil_append, List.toList_toArray]
  decreasing_trivial
  decreasing_trivial
  decreasing_trivial
  decreasing_trivial
  decreasing_trivial
  decreasing_trivial
  decreasing_trivial
  decreasing_trivial
  decreasing_trivial
  decreasing_trivial
end
noncomputable def q112m (j : Nat) : Option AV := match j with
  | 0 => none
  | k + 1 => some (.int (Int.ofNat k))
section
variable (P : Params) (n d : Nat) (m : Lo) (σ s τ : List TO)
theorem q112 (t : List UInt8) (hl : t.length ≤ 50) (ht : ∀ c ∈ t, c.toNat ≤ 127) : evf P (n + 200) (d + 1) 112 [.bytes t] σ = some (.ok (.str (t.map UInt8.toNat)), σ) := by
  have hl' := le_of (c := 100000) hl rfl
  have k1 : ∀ k, 120 ≤ k → ∀ σ, evComp (KP P) FT k d (.call (.const (.val (.builtin "chr"))) [.var 0]) none (t.map fun c => .int c.toNat) σ = some (.ok (t.map fun c => .str [c.toNat]), σ) := fun k hk σ => comp_mapL (c := 50) hl rfl hk (fun c hc k => by
    have h2 := c.toNat_lt
    decreasing_trivial_pre_omega)
  have c1 : ∀ σ, iterA (KP P) σ (.bytes t) = some (t.map fun c => .int c.toNat) := fun σ => rfl
  have h1 : AV.frees (t.map fun c => AV.str [c.toNat]) = true := frees_map (fun _ => rfl) t
  have h2 := joinA_map (g := UInt8.toNat) (l := t) hl'
  have h3 : (t.map fun c => AV.str [c.toNat]).length ≤ 100000 := by rw [List.length_map]; exact hl'
  refine fRet FT112 rfl rfl ?_; dsimp only [F112, List.map_cons, List.map_nil, List.length_cons, List.length_nil, Nat.reduceAdd, Nat.reduceSub, List.replicate, List.cons_append, List.nil_append, List.toList_toArray]
  apply bForR
  · decreasing_trivial_pre_omega
  · exact ⟨Int.natCast_nonneg _, Int.ofNat_le.mpr hl'⟩
  · refine forL (C := 50) (B := 50) (e := 120) (fun j => ([some (.bytes t), q112m j, none, none, none], σ)) ?_ rfl ?_ ?_
    · rw [List.length_map, List.length_range]; exact hl
    · exact fle rfl
    · intro j v hv N
      rw [List.getElem?_map, Option.map_eq_some_iff] at hv
      obtain ⟨i, hi, rfl⟩ := hv
      obtain ⟨hj, hi⟩ := List.getElem?_eq_some_iff.mp hi
      rw [List.length_range] at hj
      rw [List.getElem_range] at hi
      subst hi
      have e : t[(Int.ofNat j).toNat]? = some t[j] := List.getElem?_eq_getElem (l := t) hj
      have e2 : 0 ≤ Int.ofNat j ∧ t.length ≤ 100000 := ⟨Int.natCast_nonneg _, hl'⟩
      have e3 : ¬ (127 : Int) < t[j].toNat := Int.not_lt.mpr (Int.ofNat_le.mpr (ht _ (List.getElem_mem hj)))
      refine ⟨_, rfl, ?_⟩
      dsimp only
      decreasing_trivial
      exact bNxtE
  · dsimp only
    decreasing_trivial
end
section
variable (P : Params) (n d : Nat) (m : Lo) (σ s τ : List TO)
noncomputable def AstOk (P : Params) (D t : List UInt8) (e : Int) : Prop := ∀ n d s, evf P (n + 500) (d + 9) 383 [.wire s.length] (s ++ [.wire D 1]) = some (.ok (.bytes t), s ++ [.wire D e])
theorem q383_of {D t : List UInt8} {e : Int} (c1 : ∀ n d s, evf P (n + 470) (d + 8) 376 [.wire s.length, .val (.ref 214)] (s ++ [.wire D 1]) = some (.ok (.bytes t), s ++ [.wire D e])) : AstOk P D t e := fun n d s => by
  refine fRet FT383 rfl rfl ?_; dsimp only [F383, List.map_cons, List.map_nil, List.length_cons, List.length_nil, Nat.reduceAdd, Nat.reduceSub, List.replicate, List.cons_append, List.nil_append, List.toList_toArray]
  decreasing_trivial
theorem q376_of {D t : List UInt8} {e : Int} (c1 : ∀ n d s, evf P (n + 440) (d + 7) 369 [.wire s.length] (s ++ [.wire D 1]) = some (.ok (.bytes t), s ++ [.wire D e])) (hp : pk D 1 = 34 ∨ pk D 1 = 123) (hD : D.length ≤ 100000) : AstOk P D t e := q383_of P fun n d s => by
  have c2 := fun n d => q264 P n d s [] D 1 (by decide) hD
  refine fRet FT376 rfl rfl ?_; dsimp only [F376, List.map_cons, List.map_nil, List.length_cons, List.length_nil, Nat.reduceAdd, Nat.reduceSub, List.replicate, List.cons_append, List.nil_append, List.toList_toArray]
  rcases hp with hp | hp
  · decreasing_trivial
    decreasing_trivial
  · have h3 : ¬ pk D 1 = 34 := by rw [hp]; decide
    decreasing_trivial
    decreasing_trivial
theorem ast_quoted (t rest : List UInt8) (hl : t.length ≤ 50) (hrest : rest.length ≤ 50) (hq : t.all quoC = true) : AstOk P (32 :: 34 :: (t ++ 34 :: rest)) t (t.length + 3) := by
  have hD : (32 :: 34 :: (t ++ 34 :: rest) : List UInt8).length ≤ 100000 := by
    rw [List.length_cons, List.length_cons, List.length_append, List.length_cons]
    exact le_of (Nat.succ_le_succ (Nat.succ_le_succ (Nat.add_le_add hl (Nat.succ_le_succ hrest)))) rfl
  refine q376_of P (fun n d s => ?_) (.inl rfl) hD
  have hpk : ¬ pk (32 :: 34 :: (t ++ 34 :: rest)) 1 = 123 := by intro h; exact absurd (show (34 : Int) = 123 from h) (by decide)
  have c1 := fun n d => q355 P n d s t rest hl hrest hq
  generalize (32 :: 34 :: (t ++ 34 :: rest) : List UInt8) = D at *
  have c2 := fun n d => q264 P n d s [] D 1 (by decide) hD
  refine fRet FT369 rfl rfl ?_; dsimp only [F369, List.map_cons, List.map_nil, List.length_cons, List.length_nil, Nat.reduceAdd, Nat.reduceSub, List.replicate, List.cons_append, List.nil_append, List.toList_toArray]
  decreasing_trivial
theorem ast_literal (x y : UInt8) (t rest : List UInt8) (hl : t.length ≤ 50) (hrest : rest.length ≤ 50) (hx : isFigC x = true) (hy : isFigC y = true) (hn : ((x.toNat : Int) - 48) * 10 + y.toNat - 48 = t.length) :
    AstOk P (32 :: 123 :: x :: y :: 43 :: 125 :: 13 :: 10 :: (t ++ rest)) t (8 + t.length) := by
  have hD : (32 :: 123 :: x :: y :: 43 :: 125 :: 13 :: 10 :: (t ++ rest) : List UInt8).length ≤ 100000 := by
    rw [show (32 :: 123 :: x :: y :: 43 :: 125 :: 13 :: 10 :: (t ++ rest) : List UInt8).length = (t ++ rest).length + 8 from rfl, List.length_append]
    exact le_of (Nat.add_le_add_right (Nat.add_le_add hl hrest) 8) rfl
  refine q376_of P (fun n d s => ?_) (.inr rfl) hD
  have hpk : pk (32 :: 123 :: x :: y :: 43 :: 125 :: 13 :: 10 :: (t ++ rest)) 1 = 123 := rfl
  have c1 := fun n d => q362 P n d s x y t rest hl hrest hx hy hn
  generalize (32 :: 123 :: x :: y :: 43 :: 125 :: 13 :: 10 :: (t ++ rest) : List UInt8) = D at *
  have c2 := fun n d => q264 P n d s [] D 1 (by decide) hD
  refine fRet FT369 rfl rfl ?_; dsimp only [F369, List.map_cons, List.map_nil, List.length_cons, List.length_nil, Nat.reduceAdd, Nat.reduceSub, List.replicate, List.cons_append, List.nil_append, List.toList_toArray]
  decreasing_trivial
theorem ast_bare (t rest : List UInt8) (hl : t.length ≤ 50) (hrest : rest.length ≤ 50) (hq : t.all isAstC = true) (ht : t ≠ []) : AstOk P (32 :: (t ++ 32 :: rest)) t (t.length + 1) := q383_of P fun n d s => by
  have hD : (32 :: (t ++ 32 :: rest) : List UInt8).length ≤ 100000 := by
    rw [List.length_cons, List.length_append, List.length_cons]
    exact le_of (Nat.succ_le_succ (Nat.add_le_add hl (Nat.succ_le_succ hrest))) rfl
  have e1 : (1 : Int).toNat + t.length = t.length + 1 := Nat.add_comm _ _
  have c1 := fun n d => q299 P n d s 214 isAstC (fun n d σ c => q214 P n d σ c) rfl (32 :: (t ++ 32 :: rest)) 1 t.length (by decide) hD hl (fun j hj => by
    have e : t[j]? = some t[j] := List.getElem?_eq_getElem hj
    refine ⟨t[j], ?_, (List.all_eq_true.mp hq) _ (List.getElem_mem hj)⟩
    rw [Nat.add_comm]
    exact (List.getElem?_append_left hj).trans e) (.inr ⟨32, by rw [e1]; exact (getL0 t (32 :: rest)).trans rfl, by decide +kernel⟩)
  have hsl : ((32 :: (t ++ 32 :: rest) : List UInt8).take ((1 : Int).toNat + t.length)).drop (1 : Int).toNat = t := by
    rw [e1]
    exact takeL t (32 :: rest)
  rw [hsl, Int.add_comm] at c1
  obtain ⟨c, hpk, hc⟩ : ∃ c, pk (32 :: (t ++ 32 :: rest)) 1 = (c.toNat : Int) ∧ isAstC c = true := by
    cases t with
    | nil => exact absurd rfl ht
    | cons c t => exact ⟨c, rfl, (List.all_eq_true.mp hq) _ (.head _)⟩
  have i1 : ¬ pk (32 :: (t ++ 32 :: rest)) 1 = 34 := hpk ▸ u8_int (k := 34) (by rintro rfl; exact absurd hc (by decide +kernel))
  have i2 : ¬ pk (32 :: (t ++ 32 :: rest)) 1 = 123 := hpk ▸ u8_int (k := 123) (by rintro rfl; exact absurd hc (by decide +kernel))
  generalize (32 :: (t ++ 32 :: rest) : List UInt8) = D at *
  have c2 := fun n d => q264 P n d s [] D 1 (by decide) hD
  have hl' := le_of (c := 100000) hl rfl
  have hl0 : ¬ (t.length : Int) = 0 := fun e => ht (List.length_eq_zero_iff.mp (Int.ofNat.inj e))
  refine fRet FT376 rfl rfl ?_; dsimp only [F376, List.map_cons, List.map_nil, List.length_cons, List.length_nil, Nat.reduceAdd, Nat.reduceSub, List.replicate, List.cons_append, List.nil_append, List.toList_toArray]
  decreasing_trivial
  decreasing_trivial
  decreasing_trivial
  decreasing_trivial
end
theorem asc_of {t : List UInt8} (h : ∀ c ∈ t, c.toNat ≤ 127) : ascii (t.map UInt8.toNat) = true := by
  simp only [ascii, List.all_eq_true, decide_eq_true_eq, List.mem_map]
  rintro x ⟨c, hc, rfl⟩
  exact Nat.lt_succ_of_le (h c hc)

noncomputable def heardAV (t : List Nat) (e : Int) : AV := match dayR t with
  | some (y, k, b) => .tup [.tup [.int y, .int k, .int b], .int e]
  | none => .int 1
theorem hrd_no {t : List Nat} {e : Int} (h : dayR t = none) : AV.int 1 = heardAV t e := by rw [heardAV, h]
theorem hrd_yes {t : List Nat} {e y k b : Int} (h : dayR t = some (y, k, b)) : AV.tup [.tup [.int y, .int k, .int b], .int e] = heardAV t e := by rw [heardAV, h]
theorem hrd_free (t : List Nat) (e : Int) : (heardAV t e).free = true := by
  unfold heardAV
  split <;> rfl
theorem fle2 {l l' : List TO} {w : TO} : ((l ++ [w]) ++ l').length = l.length + (l'.length + 1) := by rw [List.length_append, List.length_append, Nat.add_right_comm]; rfl
section
variable (P : Params) (n d : Nat) (m : Lo) (σ s τ : List TO)
theorem q165 (D t : List UInt8) (e : Int) (hD : D.length + 1 ≤ 100000) (hl : t.length ≤ 40) (ht : ∀ c ∈ t, c.toNat ≤ 127) (h : AstOk P (32 :: D) t e) : match dayR (t.map UInt8.toNat) with
    | some (y, k, b) => evf P (n + 550) (d + 10) 165 [.wire s.length] (s ++ [.wire (32 :: D) 0]) = some (.ok (.tup [.int y, .int k, .int b]), s ++ [.wire (32 :: D) e])
    | none => ∃ ext j, evf P (n + 550) (d + 10) 165 [.wire s.length] (s ++ [.wire (32 :: D) 0]) = some (.exc (s.length + (j + 1)), s ++ .wire (32 :: D) e :: ext) ∧ ext[j]? = some (.exc 83 1 .any) := by
  have c1 := fun n d => q285 P n d s [] D hD
  have c2 : ∀ n d, evf P (n + 500) (d + 9) 383 [.wire s.length] (s ++ [.wire (32 :: D) 1]) = some (.ok (.bytes t), s ++ [.wire (32 :: D) e]) := fun n d => h n d s
  have c3 := fun n d σ => q112 P n d σ t (le_of hl rfl) ht
  have q := fun n d => q158 P n d (s ++ [.wire (32 :: D) e]) (t.map UInt8.toNat) (asc_of ht) (by rw [List.length_map]; exact hl)
  cases hr : dayR (t.map UInt8.toNat) with
  | some x =>
    obtain ⟨y, k, b⟩ := x
    rw [hr] at q
    have c4 : ∀ n d, evf P (n + 300) (d + 5) 158 [.str (t.map UInt8.toNat)] (s ++ [.wire (32 :: D) e]) = some (.ok (.tup [.int y, .int k, .int b]), s ++ [.wire (32 :: D) e]) := q
    refine fRet FT165 rfl rfl ?_; dsimp only [F165, List.map_cons, List.map_nil, List.length_cons, List.length_nil, Nat.reduceAdd, Nat.reduceSub, List.replicate, List.cons_append, List.nil_append, List.toList_toArray]
    decreasing_trivial
    decreasing_trivial
    apply bTryR
    decreasing_trivial
  | none =>
    rw [hr] at q
    obtain ⟨ext, j, c4, f⟩ := q (n + 241) (d + 4)
    refine ⟨ext ++ [.exc 83 1 .any], ext.length, fXI FT165 rfl ?_, by simp⟩; dsimp only [F165, List.map_cons, List.map_nil, List.length_cons, List.length_nil, Nat.reduceAdd, Nat.reduceSub, List.replicate, List.cons_append, List.nil_append, List.toList_toArray]
    decreasing_trivial
    decreasing_trivial
    have e1 : s ++ .wire (32 :: D) e :: (ext ++ [.exc 83 1 .any]) = ((s ++ [.wire (32 :: D) e]) ++ ext) ++ [.exc 83 1 .any] := by rw [List.append_assoc, List.append_assoc]; rfl
    rw [e1, ← fle2 (l := s) (w := .wire (32 :: D) e)]
    refine bTryX (i := (s ++ [TO.wire (32 :: D) e]).length + j) (σ1 := (s ++ [.wire (32 :: D) e]) ++ ext) (evSs_retX ?_) (hRaise (gAt f) rfl)
    decreasing_trivial_pre_omega
theorem q473 (D t : List UInt8) (e : Int) (hD : D.length + 1 ≤ 100000) (hl : t.length ≤ 40) (ht : ∀ c ∈ t, c.toNat ≤ 127) (h : AstOk P (32 :: D) t e) : evf P (n + 600) (d + 11) 473 [.bytes (32 :: D)] σ = some (.ok (heardAV (t.map UInt8.toNat) e), σ) := by
  have q := fun n d => q165 P n d σ D t e hD hl ht h
  have c1 : callC σ 420 [.bytes (32 :: D)] = some (.ok (.wire σ.length), σ ++ [.wire (32 :: D) 0]) := rfl
  refine fRet FT473 rfl (hrd_free _ _) ?_; dsimp only [F473, List.map_cons, List.map_nil, List.length_cons, List.length_nil, Nat.reduceAdd, Nat.reduceSub, List.replicate, List.cons_append, List.nil_append, List.toList_toArray]
  decreasing_trivial
  decreasing_trivial
  cases hr : dayR (t.map UInt8.toNat) with
  | some x =>
    obtain ⟨y, k, b⟩ := x
    rw [hr] at q
    have c2 : ∀ n d, evf P (n + 550) (d + 10) 165 [.wire σ.length] (σ ++ [.wire (32 :: D) 0]) = some (.ok (.tup [.int y, .int k, .int b]), σ ++ [.wire (32 :: D) e]) := q
    have := hrd_yes (e := e) hr
    apply bTryN
    · decreasing_trivial
      decreasing_trivial
      exact bNxtE
    · decreasing_trivial
  | none =>
    rw [hr] at q
    obtain ⟨ext, j, c2, f⟩ := q (n + 41) d
    have := hrd_no (e := e) hr
    have e2 : (σ ++ .wire (32 :: D) e :: ext).take σ.length = σ := takeL _ _
    refine bTryC (i := σ.length + (j + 1)) (σ1 := σ ++ .wire (32 :: D) e :: ext) (evSs_asgX ?_) (hAt (gAt f) rfl) ?_
    · decreasing_trivial_pre_omega
    · decreasing_trivial
theorem eq_tt {K : Frag} {σ : List TO} {y k c e : Int} : eqA K σ (.tup [.tup [.int y, .int k, .int c], .int e]) (.tup [.tup [.int y, .int k, .int c], .int e]) = some ((y == y && (k == k && (c == c && true))) && ((e == e) && true)) := by kernel_rfl
theorem cEqTT {K : Frag} {σ : List TO} {y k c e : Int} : cmpA K σ .eq (.tup [.tup [.int y, .int k, .int c], .int e]) (.tup [.tup [.int y, .int k, .int c], .int e]) = some true := (eq_tt (K := K) (σ := σ)).trans (by rw [beq_self_eq_true, beq_self_eq_true, beq_self_eq_true, beq_self_eq_true]; rfl)
theorem bytesOf_map {t : List Nat} (h : ascii t = true) (hl : t.length ≤ 40) : bytesOfInts (t.map fun (c : Nat) => (c : Int)) = some (.bytes (t.map UInt8.ofNat)) := by
  unfold bytesOfInts
  rw [if_pos]
  · rw [List.map_map]; rfl
  · refine ⟨?_, by rw [List.length_map]; omega⟩
    rw [List.all_eq_true]
    intro x hx
    rw [List.mem_map] at hx
    obtain ⟨c, hc, rfl⟩ := hx
    have := asc_le h hc
    rw [decide_eq_true_eq]
    omega
theorem of_lt {x : Nat} (h : x < 128) : (UInt8.ofNat x).toNat = x := by rw [UInt8.toNat_ofNat', Nat.mod_eq_of_lt (Nat.lt_trans h (by decide))]
theorem toNat_map {t : List Nat} (h : ascii t = true) : (t.map UInt8.ofNat).map UInt8.toNat = t := by
  rw [List.map_map]
  exact (List.map_congr_left fun c hc => of_lt (asc_le h hc)).trans (List.map_id' t)
theorem le_map {t : List Nat} (h : ascii t = true) : ∀ c ∈ t.map UInt8.ofNat, c.toNat ≤ 127 := fun c hc => by
  obtain ⟨x, hx, rfl⟩ := List.mem_map.mp hc
  have := asc_le h hx
  rw [of_lt this]
  exact Nat.le_of_lt_succ this
noncomputable def figHi (n : Nat) : UInt8 := UInt8.ofNat (48 + n / 10)
noncomputable def figLo (n : Nat) : UInt8 := UInt8.ofNat (48 + n % 10)
theorem fdiv10 (n : Nat) : (n : Int).fdiv 10 = ((n / 10 : Nat) : Int) := by rw [Int.fdiv_eq_ediv_of_nonneg _ (by decide)]; omega
theorem fmod10 (n : Nat) : (n : Int).fmod 10 = ((n % 10 : Nat) : Int) := by rw [Int.fmod_eq_emod_of_nonneg _ (by decide)]; omega
theorem fig_rng : ∀ m < 10, decide (0 ≤ 48 + ((m : Nat) : Int) ∧ 48 + ((m : Nat) : Int) < 256) = true := by decide
theorem figs_two {n : Nat} (h : n ≤ 40) : bytesOfInts [48 + (n : Int).fdiv 10, 48 + (n : Int).fmod 10] = some (.bytes [figHi n, figLo n]) := by
  rw [fdiv10, fmod10]
  unfold bytesOfInts
  rw [if_pos]
  · simp only [List.map_cons, List.map_nil, figHi, figLo]
    congr 4
  · refine ⟨?_, Nat.le_of_ble_eq_true rfl⟩
    rw [List.all_cons, List.all_cons, fig_rng _ (Nat.div_lt_of_lt_mul (Nat.lt_of_le_of_lt h (by decide))), fig_rng _ (Nat.mod_lt _ (by decide))]
    rfl
theorem hi_nat {n : Nat} (h : n ≤ 40) : (figHi n).toNat = 48 + n / 10 := by simp [figHi, UInt8.toNat_ofNat']; omega
theorem lo_nat {n : Nat} (h : n ≤ 40) : (figLo n).toNat = 48 + n % 10 := by simp [figLo, UInt8.toNat_ofNat']; omega
noncomputable def WayOk (t : List Nat) : Nat → Bool
  | 0 => (t.map UInt8.ofNat).all isAstC && t != []
  | 1 => (t.map UInt8.ofNat).all quoC
  | _ => true
theorem q478_w (t : List Nat) (way : Int) (Z : List UInt8) (e : Int) (h : ascii t = true) (hl : t.length ≤ 40) (hw : ixOk way = true)
    (hz : [AV.bytes (t.map UInt8.ofNat), .bytes ([34] ++ t.map UInt8.ofNat ++ [34]), .bytes ([123] ++ [figHi t.length, figLo t.length] ++ [43, 125, 13, 10] ++ t.map UInt8.ofNat)][way.toNat]? = some (.bytes Z))
    (hA : AstOk P (32 :: (Z ++ [32, 120])) (t.map UInt8.ofNat) e) (he : (([32] ++ Z ++ [32, 120] : List UInt8).length : Int) - 2 = e) (hZ : Z.length ≤ 60) : evf P (n + 700) (d + 12) 478 [.str t, .int way] σ = some (.ok (.bool true), σ) := by
  have lo : (t.map UInt8.ofNat).length = t.length := List.length_map _
  have hlo := le_of (c := 100000) (lo.symm ▸ hl) rfl
  have k1 : ∀ k, 120 ≤ k → ∀ σ, evComp (KP P) FT k (d + 11) (.call (.const (.val (.builtin "ord"))) [.var 0]) none (t.map fun c => .str [c]) σ = some (.ok (t.map fun (c : Nat) => .int c), σ) := fun k hk σ => comp_mapL (c := 50) hl rfl hk (fun c hc k => by decreasing_trivial_pre_omega)
  have c1 : ∀ σ, iterA (KP P) σ (.str t) = some (t.map fun c => .str [c]) := fun σ => if_pos h
  have h1 : AV.frees (t.map fun (c : Nat) => AV.int (c : Int)) = true := frees_map (fun _ => rfl) t
  have h2 : (intsOf (t.map fun (c : Nat) => AV.int (c : Int))).bind bytesOfInts = some (.bytes (t.map UInt8.ofNat)) := by rw [intsOf_map]; exact bytesOf_map h hl
  have h3 : (t.map fun (c : Nat) => AV.int (c : Int)).length ≤ 100000 := by rw [List.length_map]; exact le_of hl rfl
  have c2 := fun n d σ => q466 P n d σ t h hl
  have l1 : ([34] : List UInt8).length + (t.map UInt8.ofNat).length ≤ 100000 := by rw [lo]; exact le_of (Nat.add_le_add_left hl _) rfl
  have l2 : ([34] ++ t.map UInt8.ofNat : List UInt8).length + ([34] : List UInt8).length ≤ 100000 := by rw [List.length_append, lo]; exact le_of (Nat.add_le_add_right (Nat.add_le_add_left hl _) _) rfl
  have l3 : ([123] : List UInt8).length + [figHi t.length, figLo t.length].length ≤ 100000 := Nat.le_of_ble_eq_true rfl
  have l4 : ([123] ++ [figHi t.length, figLo t.length] : List UInt8).length + ([43, 125, 13, 10] : List UInt8).length ≤ 100000 := Nat.le_of_ble_eq_true rfl
  have l5 : ([123] ++ [figHi t.length, figLo t.length] ++ [43, 125, 13, 10] : List UInt8).length + (t.map UInt8.ofNat).length ≤ 100000 := by rw [lo]; exact le_of (Nat.add_le_add_left hl _) rfl
  have c3 : (intsOf [.int (48 + ((t.map UInt8.ofNat).length : Int).fdiv 10), .int (48 + ((t.map UInt8.ofNat).length : Int).fmod 10)]).bind bytesOfInts = some (.bytes [figHi t.length, figLo t.length]) := by rw [lo]; exact figs_two hl
  have l6 : ([32] : List UInt8).length + Z.length ≤ 100000 := le_of (Nat.add_le_add_left hZ _) rfl
  have l7 : ([32] ++ Z : List UInt8).length + ([32, 120] : List UInt8).length ≤ 100000 := by rw [List.length_append]; exact le_of (Nat.add_le_add_right (Nat.add_le_add_left hZ _) _) rfl
  have l8 : ([32] ++ Z ++ [32, 120] : List UInt8).length ≤ 100000 := by rw [List.length_append]; exact l7
  have l9 : (Z ++ [32, 120] : List UInt8).length + 1 ≤ 100000 := by rw [List.length_append]; exact le_of (Nat.succ_le_succ (Nat.add_le_add_right hZ _)) rfl
  have c4 : ∀ n d σ, evf P (n + 600) (d + 11) 473 [.bytes ([32] ++ Z ++ [32, 120])] σ = some (.ok (heardAV t e), σ) := fun n d σ => by
    have q := q473 P n d σ (Z ++ [32, 120]) (t.map UInt8.ofNat) e l9 (lo.symm ▸ hl) (le_map h) hA
    rw [toNat_map h] at q
    exact q
  generalize t.map UInt8.ofNat = o at *
  refine fRet FT478 rfl rfl ?_; dsimp only [F478, List.map_cons, List.map_nil, List.length_cons, List.length_nil, Nat.reduceAdd, Nat.reduceSub, List.replicate, List.cons_append, List.nil_append, List.toList_toArray]
  decreasing_trivial
  decreasing_trivial
  decreasing_trivial
  decreasing_trivial
  cases hr : dayR t with
  | none =>
    have c5 : ∀ σ, cmpA (KP P) σ .is (dueAV t) .none = some true := fun σ => by rw [← due_no hr]; rfl
    have c6 : ∀ σ, cmpA (KP P) σ .eq (heardAV t e) (.int 1) = some true := fun σ => by rw [← hrd_no hr]; exact cEqT rfl
    decreasing_trivial
  | some x =>
    obtain ⟨y, k, b⟩ := x
    have c5 : ∀ σ, cmpA (KP P) σ .is (dueAV t) .none = some false := fun σ => by rw [← due_yes hr]; rfl
    have c6 : ∀ σ, cmpA (KP P) σ .eq (heardAV t e) (.tup [dueAV t, .int (([32] ++ Z ++ [32, 120] : List UInt8).length - 2)]) = some true := fun σ => by rw [he, ← hrd_yes hr, ← due_yes hr]; exact cEqTT
    decreasing_trivial
theorem sub2 {n k : Nat} (h : n = k + 2) : (n : Int) - 2 = k := by subst h; omega
theorem q478_a (t : List Nat) (way : Nat) (h : ascii t = true) (hl : t.length ≤ 40) (hw : WayOk t way = true) (hway : way < 3) : evf P (n + 700) (d + 12) 478 [.str t, .int way] σ = some (.ok (.bool true), σ) := by
  have lo : (t.map UInt8.ofNat).length = t.length := List.length_map _
  have lo5 : (t.map UInt8.ofNat).length ≤ 50 := lo.symm ▸ le_of hl rfl
  rcases (by decide : ∀ w, w < 3 → w = 0 ∨ w = 1 ∨ w = 2) way hway with rfl | rfl | rfl
  · rw [WayOk, Bool.and_eq_true, bne_iff_ne] at hw
    refine q478_w P n d σ t 0 (t.map UInt8.ofNat) (t.length + 1) h hl rfl rfl ?_ ?_ (le_of lo5 rfl)
    · have := ast_bare P (t.map UInt8.ofNat) [120] lo5 (by decide) hw.1 fun e => hw.2 (List.map_eq_nil_iff.mp e)
      rw [lo] at this
      exact this
    · exact sub2 (k := t.length + 1) (by rw [List.length_append, List.length_append, lo, Nat.add_comm [32].length]; rfl)
  · refine q478_w P n d σ t 1 ([34] ++ t.map UInt8.ofNat ++ [34]) (t.length + 3) h hl rfl rfl ?_ ?_ ?_
    · have := ast_quoted P (t.map UInt8.ofNat) [32, 120] lo5 (by decide) hw
      rw [lo] at this
      rw [List.append_assoc, List.append_assoc]
      exact this
    · exact sub2 (k := t.length + 3) (by rw [List.length_append, List.length_append, List.length_append, List.length_append, lo, Nat.add_comm [34].length, Nat.add_comm [32].length]; rfl)
    · rw [List.length_append, List.length_append, lo]
      exact le_of (Nat.add_le_add_right (Nat.add_le_add_left hl _) _) rfl
  · refine q478_w P n d σ t 2 ([123] ++ [figHi t.length, figLo t.length] ++ [43, 125, 13, 10] ++ t.map UInt8.ofNat) (8 + t.length) h hl rfl rfl ?_ ?_ ?_
    · have h1 := hi_nat hl
      have h2 := lo_nat hl
      have := ast_literal P (figHi t.length) (figLo t.length) (t.map UInt8.ofNat) [32, 120] lo5 (by decide) (by simp only [isFigC, h1, Bool.and_eq_true, decide_eq_true_eq]; omega) (by simp only [isFigC, h2, Bool.and_eq_true, decide_eq_true_eq]; omega) (by rw [h1, h2, lo]; omega)
      rw [lo] at this
      exact this
    · exact sub2 (k := 8 + t.length) (by rw [List.length_append, List.length_append, List.length_append, lo, ← Nat.add_assoc]; rfl)
    · rw [List.length_append, lo]
      exact le_of (Nat.add_le_add_left hl _) rfl
end
section
variable {K : Frag} {FT : Addr → Option Fn} {d : Nat}
theorem for_inv {ks : List Nat} {b : List IS} {C N : Nat} (I : Lo → List TO → Prop) : ∀ (vs : List AV), (∀ v ∈ vs, ∀ m σ, I m σ → ∀ N, ∃ m' m'' σ'', putT K ks v m = some m' ∧ NxtE m'' σ'' (evSs K FT (N + C) d b m' σ) ∧ I m'' σ'') →
    ∀ {m σ}, I m σ → ∃ m' σ', evFor K FT (N + C + vs.length + 1) d ks vs b m σ = some (.nxt, m', σ') ∧ I m' σ'
  | [], _, m, σ, hI => ⟨m, σ, fNil, hI⟩
  | v :: vs, h0, m, σ, hI => by
    obtain ⟨m', m'', σ'', h1, h2, h3⟩ := h0 v (.head _) m σ hI (N + vs.length + 1)
    obtain ⟨m3, σ3, e, h4⟩ := for_inv (N := N) I vs (fun v hv => h0 v (.tail _ hv)) h3
    rw [← fuel_sw] at h2
    exact ⟨m3, σ3, fCons h1 h2 e, h4⟩
theorem for_invL {ks : List Nat} {b : List IS} {vs : List AV} {C B e k : Nat} (I : Lo → List TO → Prop) (hr : vs.length ≤ B) (h2 : Nat.ble (B + (C + 1)) e = true) (h3 : e ≤ k) (h0 : ∀ v ∈ vs, ∀ m σ, I m σ → ∀ N, ∃ m' m'' σ'', putT K ks v m = some m' ∧ NxtE m'' σ'' (evSs K FT (N + C) d b m' σ) ∧ I m'' σ'')
    {m : Lo} {σ : List TO} (hI : I m σ) : ∃ m' σ', evFor K FT k d ks vs b m σ = some (.nxt, m', σ') ∧ I m' σ' := by
  obtain ⟨j, rfl⟩ := fuel_of (le_fuel hr h2 h3)
  rw [← Nat.add_assoc, Nat.add_right_comm]
  exact for_inv I vs h0 hI
end
noncomputable def pickV (xs : List Int) (many : Int) : Int := match xs with
  | [] => many - 1
  | x :: _ => x.fmod many
theorem pickV_in (xs : List Int) {many : Int} (h : 0 < many) : 0 ≤ pickV xs many ∧ pickV xs many < many := by
  cases xs with
  | nil => exact ⟨Int.le_sub_one_of_lt h, Int.sub_lt_self _ (by decide)⟩
  | cons x xs => exact ⟨Int.fmod_nonneg_of_pos _ h, Int.fmod_lt_of_pos _ h⟩

theorem plain_ints (xs : List Int) : (xs.map AV.int).all plainA = true := by simp [plainA]
noncomputable def gN (c : Nat) : Bool := (decide (48 ≤ c) && decide (c ≤ 57)) || (decide (65 ≤ c) && decide (c ≤ 90)) || (decide (97 ≤ c) && decide (c ≤ 122)) || decide (c = 43) || decide (c = 45)
theorem gN_ok : ∀ c, c < 128 → gN c = true → isAstC (UInt8.ofNat c) = true ∧ quoC (UInt8.ofNat c) = true := by decide +kernel
theorem gN_lt {c : Nat} (h : gN c = true) : c < 128 := by
  rcases Nat.lt_or_ge c 128 with h' | h'
  · exact h'
  · obtain ⟨k, rfl⟩ := Nat.exists_eq_add_of_le' h'
    exact absurd h (by rw [show gN (k + 128) = false by kernel_rfl]; exact Bool.noConfusion)
theorem good_asc {t : List Nat} (h : t.all gN = true) : ascii t = true := by
  rw [List.all_eq_true] at h
  simp only [ascii, List.all_eq_true, decide_eq_true_eq]
  exact fun x hx => gN_lt (h x hx)
theorem good_way {t : List Nat} (h : t.all gN = true) (hn : t ≠ []) : ∀ w, WayOk t w = true
  | 0 => by
    rw [List.all_eq_true] at h
    simp only [WayOk, Bool.and_eq_true, bne_iff_ne, List.all_eq_true, List.mem_map]
    refine ⟨?_, hn⟩
    rintro c ⟨x, hx, rfl⟩
    exact (gN_ok x (gN_lt (h x hx)) (h x hx)).1
  | 1 => by
    rw [List.all_eq_true] at h
    simp only [WayOk, List.all_eq_true, List.mem_map]
    rintro c ⟨x, hx, rfl⟩
    exact (gN_ok x (gN_lt (h x hx)) (h x hx)).2
  | _ + 2 => rfl
section
variable (P : Params) (n d : Nat) (m : Lo) (σ s τ : List TO)
theorem q454 (xs : List Int) (hl : xs.length ≤ 40) (many : Int) (hm : 0 < many) : evf P (n + 60) (d + 1) 454 [.loc 0, .int many] [.list (xs.map .int)] = some (.ok (.int (pickV xs many)), [.list (xs.tail.map .int)]) := by
  have h0 : ¬ many = 0 := Int.ne_of_gt hm
  have hp := plain_ints xs
  refine fRet FT454 rfl rfl ?_; dsimp only [F454, List.map_cons, List.map_nil, List.length_cons, List.length_nil, Nat.reduceAdd, Nat.reduceSub, List.replicate, List.cons_append, List.nil_append, List.toList_toArray]
  cases xs with
  | nil =>
    have hb : (!(List.map AV.int []).isEmpty) = false := rfl
    decreasing_trivial
  | cons x xs =>
    have hb : (!(List.map AV.int (x :: xs)).isEmpty) = true := rfl
    have hl' : (xs.map AV.int).length ≤ 100000 := by rw [List.length_map]; exact le_of (Nat.le_trans (Nat.le_succ _) hl) rfl
    decreasing_trivial
theorem q478_g (t : List Nat) (way : Int) (h : t.all gN = true) (hn : t ≠ []) (hl : t.length ≤ 40) (h0 : 0 ≤ way) (h3 : way < 3) : evf P (n + 700) (d + 12) 478 [.str t, .int way] σ = some (.ok (.bool true), σ) := by
  have := q478_a P n d σ t way.toNat (good_asc h) hl (good_way h hn _) ((Int.toNat_lt h0).mpr h3)
  rw [Int.toNat_of_nonneg h0] at this
  exact this
theorem q478_1 (t : List Nat) (h : ascii t = true) (hl : t.length ≤ 40) (hw : WayOk t 1 = true) : evf P (n + 700) (d + 12) 478 [.str t, .int 1] σ = some (.ok (.bool true), σ) := q478_a P n d σ t 1 h hl hw (by decide)
theorem q478_2 (t : List Nat) (h : ascii t = true) (hl : t.length ≤ 40) : evf P (n + 700) (d + 12) 478 [.str t, .int 2] σ = some (.ok (.bool true), σ) := q478_a P n d σ t 2 h hl rfl (by decide)
end
noncomputable def nthFor : List IS → Nat → List IS
  | .forr _ _ b :: _, 0 => b
  | .forRange _ _ b :: _, 0 => b
  | .forr _ _ _ :: r, n + 1 => nthFor r n
  | .forRange _ _ _ :: r, n + 1 => nthFor r n
  | _ :: r, n => nthFor r n
  | [], _ => []
noncomputable def rowOk (K : Frag) (v : AV) : Bool := match tupItems K v with
  | some [.str t, due] => ascii t && decide (t.length ≤ 40) && WayOk t 1 && (match eqA K [] (dueAV t) due with
    | some true => true
    | _ => false)
  | _ => false
noncomputable def tabOk (K : Frag) : Bool := match tupItems K (.val (.ref 447)) with
  | some l => l.all (rowOk K) && decide (l.length ≤ 20)
  | none => false

noncomputable def goodA : AV → Bool
  | .str s => s.all gN && decide (s.length ≤ 5) && s != []
  | _ => false
noncomputable def yearOk (K : Frag) : Bool := match tupItems K (.val (.ref 426)) with
  | some l => l.all (fun v => match v with
    | .str s => s.all gN && decide (s.length ≤ 5)
    | _ => false) && decide (l.length = 14)
  | none => false
section
variable (P : Params) (n d : Nat) (m : Lo) (σ s τ : List TO)
theorem tab_ok : tabOk (KP P) = true := by kernel_rfl
theorem year_ok : yearOk (KP P) = true := by kernel_rfl
theorem eq_due {K : Frag} {t : List Nat} {v : AV} : eqA K σ (dueAV t) v = eqA K [] (dueAV t) v := by
  unfold dueAV
  cases dayR t with
  | none => cases v <;> rfl
  | some x => obtain ⟨y, k, b⟩ := x; cases v <;> rfl
noncomputable def tabI (cells : List AV) (xs : List Int) (m : Lo) (σ : List TO) : Prop := ∃ a b, m = [some (.fl cells), some (.loc 0), a, b, none, none, none, none, none, none, none, none, none, none, none] ∧ σ = [.list (xs.map .int)]
theorem tab_turn (cells : List AV) (xs : List Int) (v : AV) (hv : rowOk (KP P) v = true) (m : Lo) (σ : List TO) (h : tabI cells xs m σ) (N : Nat) :
    ∃ m' m'' σ'', putT (KP P) [2, 3] v m = some m' ∧ NxtE m'' σ'' (evSs (KP P) FT (N + 900) (d + 12) (nthFor F483.1.body 0) m' σ) ∧ tabI cells xs m'' σ'' := by
  obtain ⟨a, b, rfl, rfl⟩ := h
  unfold rowOk at hv
  split at hv
  · rename_i t due ht
    simp only [Bool.and_eq_true, decide_eq_true_eq] at hv
    obtain ⟨⟨⟨h1, h2⟩, h3⟩, h4⟩ := hv
    have c4 : ∀ σ, cmpA (KP P) σ .ne (dueAV t) due = some false := fun σ => by
      show (eqA (KP P) σ (dueAV t) due).map (!·) = _
      rw [eq_due]
      split at h4
      · rename_i e; rw [e]; rfl
      · cases h4
    have c1 := fun n d σ => q466 P n d σ t h1 h2
    have c2 := fun n d σ => q478_1 P n d σ t h1 h2 h3
    have c3 := fun n d σ => q478_2 P n d σ t h1 h2
    refine ⟨[some (.fl cells), some (.loc 0), some (.str t), some due, none, none, none, none, none, none, none, none, none, none, none], [some (.fl cells), some (.loc 0), some (.str t), some due, none, none, none, none, none, none, none, none, none, none, none], [.list (xs.map .int)], ?_, ?_, _, _, rfl, rfl⟩
    · unfold putT
      rw [ht]
      rfl
    · dsimp only [nthFor, F483]
      decreasing_trivial
      exact bNxtE
  · cases hv
end
theorem ixOk_in {j b : Int} (h : 0 ≤ j ∧ j < b) (h2 : b ≤ 100000) : ixOk j = true := by rw [ixOk, decide_eq_true h.1, decide_eq_true (Int.lt_of_lt_of_le h.2 h2)]; rfl
theorem pickL {L : List AV} (h : L.all goodA = true) {k : Int} (h0 : 0 ≤ k) (h1 : k < L.length) : ∃ s, L[k.toNat]? = some (.str s) ∧ s.all gN = true ∧ s.length ≤ 5 ∧ s ≠ [] := by
  have hk : k.toNat < L.length := (Int.toNat_lt h0).mpr h1
  have := (List.all_eq_true.mp h) _ (List.getElem_mem hk)
  cases e : L[k.toNat] with
  | str s =>
    rw [e] at this
    simp only [goodA, Bool.and_eq_true, decide_eq_true_eq, bne_iff_ne] at this
    exact ⟨s, by rw [List.getElem?_eq_getElem hk, e], this.1.1, this.1.2, this.2⟩
  | _ => rw [e] at this; cases this
noncomputable def days : List (List Nat) := [[50, 56], [50, 57], [51, 48], [51, 49], [49], [48, 57], [48], [51, 50], [48, 48, 55], [120]]
noncomputable def monOk (s : List Nat) : Bool := match s with
  | [x, y, z] => ascii s && [AV.str [x, y, z], .str [upperN x, upperN y, upperN z], .str [upperN x, y, z], .str [x, y, z, 115]].all goodA
  | _ => false
theorem mon_ok : monL.all monOk = true := by decide +kernel
theorem days_ok : (days.map AV.str).all goodA = true := by decide +kernel
section
variable (P : Params) (n d : Nat) (m : Lo) (σ s τ : List TO)
noncomputable def turI (cells : List AV) (m : Lo) (σ : List TO) : Prop := ∃ a b c e f xs, m = [some (.fl cells), some (.loc 0), a, b, c, e, f, none, none, none, none, none, none, none, none] ∧ σ = [.list (List.map AV.int xs)] ∧ xs.length ≤ 40
theorem turn (cells : List AV) (v : AV) (m : Lo) (σ : List TO) (h : turI cells m σ) (N : Nat) :
    ∃ m' m'' σ'', putT (KP P) [4] v m = some m' ∧ NxtE m'' σ'' (evSs (KP P) FT (N + 900) (d + 12) (nthFor F483.1.body 1) m' σ) ∧ turI cells m'' σ'' := by
  obtain ⟨a, b, c, e, f, xs, rfl, rfl, hl⟩ := h
  have tl : ∀ l : List Int, l.length ≤ 40 → l.tail.length ≤ 40 := fun l h => by rw [List.length_tail]; exact Nat.le_trans (Nat.sub_le _ _) h
  have l1 := tl _ hl
  have l2 := tl _ l1
  have l3 := tl _ l2
  have l4 := tl _ l3
  have l5 := tl _ l4
  have c1 := fun n d => q454 P n d xs hl 12 (by decide)
  have c2 := fun n d => q454 P n d _ l1 4 (by decide)
  have c3 := fun n d => q454 P n d _ l2 10 (by decide)
  have c4 := fun n d => q454 P n d _ l3 14 (by decide)
  have c5 := fun n d => q454 P n d _ l4 3 (by decide)
  have k1 := pickV_in xs (many := 12) (by decide)
  have k2 := pickV_in xs.tail (many := 4) (by decide)
  have k3 := pickV_in xs.tail.tail (many := 10) (by decide)
  have k4 := pickV_in xs.tail.tail.tail (many := 14) (by decide)
  have k5 := pickV_in xs.tail.tail.tail.tail (many := 3) (by decide)
  generalize xs.tail.tail.tail.tail.tail = x5 at c5 l5
  generalize pickV xs 12 = j1 at c1 k1
  generalize pickV xs.tail 4 = j2 at c2 k2
  generalize pickV xs.tail.tail 10 = j3 at c3 k3
  generalize pickV xs.tail.tail.tail 14 = j4 at c4 k4
  generalize pickV xs.tail.tail.tail.tail 3 = j5 at c5 k5
  have y1 := year_ok P
  unfold yearOk at y1
  split at y1
  rotate_left
  · cases y1
  rename_i yl hyl
  simp only [Bool.and_eq_true, decide_eq_true_eq] at y1
  have g1 := ixOk_in k1 (by decide)
  have g2 := ixOk_in k2 (by decide)
  have g3 := ixOk_in k3 (by decide)
  have g4 := ixOk_in k4 (by decide)
  obtain ⟨mo, hmo, hok⟩ : ∃ mo, (monL.map AV.str)[j1.toNat]? = some (.str mo) ∧ monOk mo = true := by
    have hk : j1.toNat < monL.length := (Int.toNat_lt k1.1).mpr k1.2
    exact ⟨_, by rw [List.getElem?_map, List.getElem?_eq_getElem hk]; rfl, (List.all_eq_true.mp mon_ok) _ (List.getElem_mem hk)⟩
  unfold monOk at hok
  split at hok
  rotate_left
  · cases hok
  rename_i x y z
  rw [Bool.and_eq_true] at hok
  obtain ⟨hasc, hok⟩ := hok
  obtain ⟨m2, hm2, m2g, m2l, m2n⟩ := pickL hok k2.1 k2.2
  obtain ⟨dy, hdy, dyg, dyl, dyn⟩ := pickL days_ok k3.1 k3.2
  obtain ⟨yr, hyr, yrg, yrl⟩ : ∃ s, yl[j4.toNat]? = some (.str s) ∧ s.all gN = true ∧ s.length ≤ 5 := by
    have hk : j4.toNat < yl.length := (Int.toNat_lt k4.1).mpr (by rw [y1.2]; exact k4.2)
    have := (List.all_eq_true.mp y1.1) _ (List.getElem_mem hk)
    cases e : yl[j4.toNat] with
    | str s =>
      rw [e] at this
      simp only [Bool.and_eq_true, decide_eq_true_eq] at this
      exact ⟨s, by rw [List.getElem?_eq_getElem hk, e], this.1, this.2⟩
    | _ => rw [e] at this; cases this
  have hm2 : [AV.str [x, y, z], .str ([x, y, z].map upperN), .str ([x].map upperN ++ [y, z]), .str ([x, y, z] ++ [115])][j2.toNat]? = some (.str m2) := hm2
  have hdy : [AV.str [50, 56], .str [50, 57], .str [51, 48], .str [51, 49], .str [49], .str [48, 57], .str [48], .str [51, 50], .str [48, 48, 55], .str [120]][j3.toNat]? = some (.str dy) := hdy
  have tg : (dy ++ [45] ++ m2 ++ [45] ++ yr).all gN = true := by
    rw [List.all_append, List.all_append, List.all_append, List.all_append, dyg, m2g, yrg]; rfl
  have b1 : dy.length + [45].length ≤ 6 := Nat.add_le_add_right dyl 1
  have b2 : (dy ++ [45]).length + m2.length ≤ 11 := by rw [List.length_append]; exact Nat.add_le_add b1 m2l
  have b3 : (dy ++ [45] ++ m2).length + [45].length ≤ 12 := by rw [List.length_append]; exact Nat.add_le_add_right b2 1
  have b4 : (dy ++ [45] ++ m2 ++ [45]).length + yr.length ≤ 17 := by rw [List.length_append]; exact Nat.add_le_add b3 yrl
  have c6 := fun n d σ => q478_g P n d σ (dy ++ [45] ++ m2 ++ [45] ++ yr) j5 tg (by simp) (by rw [List.length_append]; exact le_of b4 rfl) k5.1 k5.2
  have b1 := le_of (c := 100000) b1 rfl
  have b2 := le_of (c := 100000) b2 rfl
  have b3 := le_of (c := 100000) b3 rfl
  have b4 := le_of (c := 100000) b4 rfl
  have hasx : ascii [x] = true := by simp only [ascii, List.all_cons, Bool.and_eq_true] at hasc ⊢; exact ⟨hasc.1, rfl⟩
  have c7 : ∀ σ : List TO, sliceA σ (.str [x, y, z]) none (some (.int 1)) = some (.ok (.str [x]), σ) := fun _ => rfl
  have c8 : ∀ σ : List TO, sliceA σ (.str [x, y, z]) (some (.int 1)) none = some (.ok (.str [y, z]), σ) := fun _ => rfl
  have n1 : [x, y, z].length ≤ 100000 := Nat.le_of_ble_eq_true rfl
  have n2 : [x].length ≤ 100000 := Nat.le_of_ble_eq_true rfl
  have n3 : ([x].map upperN).length + [y, z].length ≤ 100000 := Nat.le_of_ble_eq_true rfl
  have n4 : [x, y, z].length + [115].length ≤ 100000 := Nat.le_of_ble_eq_true rfl
  have c9 := t425 P
  refine ⟨_, [some (.fl cells), some (.loc 0), some (.str (dy ++ [45] ++ m2 ++ [45] ++ yr)), b, some v, some (.str m2), some (.str dy), none, none, none, none, none, none, none, none], [.list (x5.map .int)], rfl, ?_, _, _, _, _, _, _, rfl, rfl, l5⟩
  dsimp only [nthFor, F483]
  decreasing_trivial
  decreasing_trivial
  decreasing_trivial
  decreasing_trivial
  decreasing_trivial
  exact bNxtE
end
section
variable (P : Params)
theorem last_1 (xs : List AV) : evf P 1988 19 473 [.bytes [49, 45, 74, 97, 110, 45, 50, 48, 48, 49]] [.list xs] = some (.ok .none, [.list xs]) := by kernel_rfl
theorem last_2 (xs : List AV) : evf P 1987 19 473 [.bytes [32]] [.list xs] = some (.ok .none, [.list xs]) := by kernel_rfl
theorem last_3 (xs : List AV) : evf P 1986 19 473 [.bytes [32, 123, 48, 49, 43, 125, 13, 10, 233]] [.list xs] = some (.ok (.int 1), [.list xs]) := by kernel_rfl
theorem law_ok (zs : List Int) (hl : zs.length ≤ 100000) : evf P 2000 20 483 [.fl (zs.map .int)] [] = some (.ok (.bool true), []) := by
  have ht := tab_ok P
  unfold tabOk at ht
  split at ht
  rotate_left
  · cases ht
  rename_i rows hrows
  simp only [Bool.and_eq_true, decide_eq_true_eq] at ht
  have hk : (zs.take 40).length ≤ 40 := List.length_take_le _ _
  have c1 : ∀ σ : List TO, sliceA σ (.fl (zs.map .int)) none (some (.int 40)) = some (.ok (.fl ((zs.take 40).map .int)), σ) := fun σ => by
    show opt ((sliceL (zs.map AV.int) none (some 40)).map AV.fl) σ = _
    rw [show sliceL (zs.map AV.int) none (some 40) = _ from if_pos ⟨Int.le_refl _, show (0 : Int) ≤ 40 by decide, by rw [List.length_map]; exact hl⟩, List.map_take]
    rfl
  have c2 : ∀ σ, iterA (KP P) σ (.fl ((zs.take 40).map .int)) = some ((zs.take 40).map .int) := fun _ => rfl
  have k1 : ∀ k, 120 ≤ k → ∀ σ, evComp (KP P) FT k 19 (.call (.const (.val (.type "int"))) [.var 0]) none ((zs.take 40).map .int) σ = some (.ok ((zs.take 40).map .int), σ) := fun k h σ => comp_mapL (c := 50) hk rfl h (fun z _ k => by decreasing_trivial_pre_omega)
  have h1 : AV.frees ((zs.take 40).map AV.int) = true := frees_map (fun _ => rfl) _
  have h2 : ((zs.take 40).map AV.int).length ≤ 100000 := by rw [List.length_map]; exact le_of hk rfl
  refine fRet FT483 rfl rfl ?_; dsimp only [F483, List.map_cons, List.map_nil, List.length_cons, List.length_nil, Nat.reduceAdd, Nat.reduceSub, List.replicate, List.cons_append, List.nil_append, List.toList_toArray]
  decreasing_trivial
  obtain ⟨m1, σ1, e1, a, b, rfl, rfl⟩ := for_invL (K := KP P) (FT := FT) (d := 19) (ks := [2, 3]) (b := nthFor F483.1.body 0) (C := 900) (B := 20) (e := 921) (k := 1996) (tabI (zs.map .int) (zs.take 40)) ht.2 rfl (Nat.le_of_ble_eq_true rfl) (fun v hv m σ hI N => tab_turn P 7 _ _ v ((List.all_eq_true.mp ht.1) v hv) m σ hI N) (m := [some (AV.fl (zs.map .int)), some (AV.loc 0), none, none, none, none, none, none, none, none, none, none, none, none, none]) (σ := [.list ((zs.take 40).map .int)]) ⟨none, none, rfl, rfl⟩
  obtain ⟨m2, σ2, e2, a', b', c', e', f', xs, rfl, rfl, hx⟩ := for_invL (K := KP P) (FT := FT) (d := 19) (ks := [4]) (b := nthFor F483.1.body 1) (C := 900) (B := 5) (e := 921) (k := 1995) (turI (zs.map .int)) (vs := (List.range (5 : Int).toNat).map fun i => AV.int (Int.ofNat i)) (by rw [List.length_map, List.length_range]; decide) rfl (Nat.le_of_ble_eq_true rfl) (fun v hv m σ hI N => turn P 7 _ v m σ hI N) (m := [some (AV.fl (zs.map .int)), some (AV.loc 0), a, b, none, none, none, none, none, none, none, none, none, none, none]) (σ := [.list ((zs.take 40).map .int)]) ⟨_, _, _, _, _, _, rfl, rfl, hk⟩
  apply bFor
  · decreasing_trivial_pre_omega
  · exact hrows
  · exact e1
  apply bForR
  · decreasing_trivial_pre_omega
  · exact ⟨by decide, by decide⟩
  · exact e2
  have c1 := last_1 P (xs.map .int)
  have c2 := last_2 P (xs.map .int)
  have c3 := last_3 P (xs.map .int)
  decreasing_trivial
end
end Mine
end

section
open PySem PySem.W PySem.Calls PyProof.Rows
set_option maxRecDepth 100000
set_option linter.unusedSimpArgs false
set_option linter.unusedVariables false
set_option maxHeartbeats 1000000
namespace Mine
section
variable (P : Params)
theorem wire_ok : WireOk (KP P) where
  ga := by kernel_rfl
  gk := by kernel_rfl
  hd := ⟨_, by with_unfolding_all rfl, by rfl⟩
  at_ := by kernel_rfl
  data := by kernel_rfl
  sa := by kernel_rfl
  over := by kernel_rfl
theorem store_w : StoreOk (KP P) wireC where
  sa := by kernel_rfl
  cd := ⟨_, by with_unfolding_all rfl, by kernel_rfl, by kernel_rfl, by kernel_rfl, fun self => by kernel_rfl⟩
theorem wire_init : WireInit (KP P) where
  made := by kernel_rfl
  keep := by kernel_rfl
  st := store_w P
  tk1 := by kernel_rfl
  tk2 := by kernel_rfl
  it := by
    refine ⟨?f, ?fd, ?a1, ?a2, ?a3, ?a4, ?b1, ?b2, ?b3, ?b4, ?tz, ?h1, ⟨⟨?oc, ?od, ?sl, ?h2⟩, ?h3, ?h4, ?h5, ?h6, ?h7, ?h8⟩, ?h9, ?h10, ?h11, ?h12, ?h13⟩
    case h1 => with_unfolding_all rfl
    case h2 => with_unfolding_all rfl
    case h3 => rfl
    case h4 => rfl
    case h5 => rfl
    case h6 => decide
    case h7 => kernel_rfl
    case h8 => kernel_rfl
    case h9 => rfl
    case h10 => intro S x u; with_unfolding_all rfl
    case h11 => kernel_rfl
    case h12 => kernel_rfl
    case h13 => kernel_rfl
noncomputable def mroB : Option Obj → Option (List Value)
  | some ⟨_, _, .cls cd, _⟩ => some cd.mro
  | _ => none
noncomputable def notIn (K : Frag) (C D : Addr) : Bool := match mroB (K.lookup C) with
  | some l => !l.contains (.ref D)
  | none => false
theorem notIn_ok {K : Frag} {C D : Addr} (h : notIn K C D = true) {nm q N bs bm hdct sn sub ab col dd k0 k1 k2 k3 k5} (e : K.lookup C = some (excClassObj nm q C N bs bm hdct sn sub ab col dd k0 k1 k2 k3 k5 "Exception.__new__")) : (Value.ref C :: bm).contains (.ref D) = false := by
  unfold notIn at h
  rw [e, show mroB (some (excClassObj nm q C N bs bm hdct sn sub ab col dd k0 k1 k2 k3 k5 "Exception.__new__")) = some (Value.ref C :: bm) from rfl] at h
  simpa using h
theorem exc_ok_59 : ExcOk (KP P) 59 where
  obj := by
    refine ⟨?nm, ?q, ?N, ?bs, ?bm, ?hdct, ?sn, ?sub, ?ab, ?col, ?dd, ?k0, ?k1, ?k2, ?k3, ?k5, ?h1, ⟨?h2, ?h3, ?h4, ?h5⟩⟩
    case h1 => with_unfolding_all rfl
    case h2 => kernel_rfl
    case h3 => kernel_rfl
    case h4 => kernel_rfl
    case h5 => kernel_rfl
  keep := by kernel_rfl
  st := ⟨by kernel_rfl, ⟨_, by with_unfolding_all rfl, by kernel_rfl, by kernel_rfl, by kernel_rfl, fun self => by kernel_rfl⟩⟩
  tk1 := by kernel_rfl
  tk2 := by kernel_rfl
  it := by
    refine ⟨?f, ?fd, ?e1, ?e2, ?e3, ?e4, ?e5, ?e6, ?a1, ?a2, ?a3, ?a4, ?b1, ?b2, ?b3, ?b4, ?h1, ⟨⟨?oc, ?od, ?sl, ?h2⟩, ?h3, ?h4, ?h5, ?h6, ?h7, ?h8⟩, ?h9, ?h9b, ?h10, ?h11, ?h12, ?h13, ?h14, ?h15, ?h16⟩
    case h1 => with_unfolding_all rfl
    case h2 => with_unfolding_all rfl
    case h3 => rfl
    case h4 => rfl
    case h5 => rfl
    case h6 => decide
    case h7 => kernel_rfl
    case h8 => kernel_rfl
    case h9 => rfl
    case h9b => rfl
    case h10 => intro S x u v; with_unfolding_all rfl
    case h11 => kernel_rfl
    case h12 => kernel_rfl
    case h13 => kernel_rfl
    case h14 => kernel_rfl
    case h15 => rfl
    case h16 => rfl
  gl := by kernel_rfl
  gb := by kernel_rfl
theorem exc_read_59 : ExcRead (KP P) 59 where
  ga := by kernel_rfl
  gk := by kernel_rfl
  at_ := by kernel_rfl
  cd := ⟨_, by with_unfolding_all rfl, by kernel_rfl, by kernel_rfl, by kernel_rfl⟩
theorem exc_ok_71 : ExcOk (KP P) 71 where
  obj := by
    refine ⟨?nm, ?q, ?N, ?bs, ?bm, ?hdct, ?sn, ?sub, ?ab, ?col, ?dd, ?k0, ?k1, ?k2, ?k3, ?k5, ?h1, ⟨?h2, ?h3, ?h4, ?h5⟩⟩
    case h1 => with_unfolding_all rfl
    case h2 => kernel_rfl
    case h3 => kernel_rfl
    case h4 => kernel_rfl
    case h5 => kernel_rfl
  keep := by kernel_rfl
  st := ⟨by kernel_rfl, ⟨_, by with_unfolding_all rfl, by kernel_rfl, by kernel_rfl, by kernel_rfl, fun self => by kernel_rfl⟩⟩
  tk1 := by kernel_rfl
  tk2 := by kernel_rfl
  it := by
    refine ⟨?f, ?fd, ?e1, ?e2, ?e3, ?e4, ?e5, ?e6, ?a1, ?a2, ?a3, ?a4, ?b1, ?b2, ?b3, ?b4, ?h1, ⟨⟨?oc, ?od, ?sl, ?h2⟩, ?h3, ?h4, ?h5, ?h6, ?h7, ?h8⟩, ?h9, ?h9b, ?h10, ?h11, ?h12, ?h13, ?h14, ?h15, ?h16⟩
    case h1 => with_unfolding_all rfl
    case h2 => with_unfolding_all rfl
    case h3 => rfl
    case h4 => rfl
    case h5 => rfl
    case h6 => decide
    case h7 => kernel_rfl
    case h8 => kernel_rfl
    case h9 => rfl
    case h9b => rfl
    case h10 => intro S x u v; with_unfolding_all rfl
    case h11 => kernel_rfl
    case h12 => kernel_rfl
    case h13 => kernel_rfl
    case h14 => kernel_rfl
    case h15 => rfl
    case h16 => rfl
  gl := by kernel_rfl
  gb := by kernel_rfl
theorem exc_read_71 : ExcRead (KP P) 71 where
  ga := by kernel_rfl
  gk := by kernel_rfl
  at_ := by kernel_rfl
  cd := ⟨_, by with_unfolding_all rfl, by kernel_rfl, by kernel_rfl, by kernel_rfl⟩
theorem exc_ok_83 : ExcOk (KP P) 83 where
  obj := by
    refine ⟨?nm, ?q, ?N, ?bs, ?bm, ?hdct, ?sn, ?sub, ?ab, ?col, ?dd, ?k0, ?k1, ?k2, ?k3, ?k5, ?h1, ⟨?h2, ?h3, ?h4, ?h5⟩⟩
    case h1 => with_unfolding_all rfl
    case h2 => kernel_rfl
    case h3 => kernel_rfl
    case h4 => kernel_rfl
    case h5 => kernel_rfl
  keep := by kernel_rfl
  st := ⟨by kernel_rfl, ⟨_, by with_unfolding_all rfl, by kernel_rfl, by kernel_rfl, by kernel_rfl, fun self => by kernel_rfl⟩⟩
  tk1 := by kernel_rfl
  tk2 := by kernel_rfl
  it := by
    refine ⟨?f, ?fd, ?e1, ?e2, ?e3, ?e4, ?e5, ?e6, ?a1, ?a2, ?a3, ?a4, ?b1, ?b2, ?b3, ?b4, ?h1, ⟨⟨?oc, ?od, ?sl, ?h2⟩, ?h3, ?h4, ?h5, ?h6, ?h7, ?h8⟩, ?h9, ?h9b, ?h10, ?h11, ?h12, ?h13, ?h14, ?h15, ?h16⟩
    case h1 => with_unfolding_all rfl
    case h2 => with_unfolding_all rfl
    case h3 => rfl
    case h4 => rfl
    case h5 => rfl
    case h6 => decide
    case h7 => kernel_rfl
    case h8 => kernel_rfl
    case h9 => rfl
    case h9b => rfl
    case h10 => intro S x u v; with_unfolding_all rfl
    case h11 => kernel_rfl
    case h12 => kernel_rfl
    case h13 => kernel_rfl
    case h14 => kernel_rfl
    case h15 => rfl
    case h16 => rfl
  gl := by kernel_rfl
  gb := by kernel_rfl
theorem exc_read_83 : ExcRead (KP P) 83 where
  ga := by kernel_rfl
  gk := by kernel_rfl
  at_ := by kernel_rfl
  cd := ⟨_, by with_unfolding_all rfl, by kernel_rfl, by kernel_rfl, by kernel_rfl⟩
theorem exc_ok (C : Addr) (h : isExcC C) : ExcOk (KP P) C := by
  rcases h with rfl | rfl | rfl
  · exact exc_ok_59 P
  · exact exc_ok_71 P
  · exact exc_ok_83 P
theorem cls_ok : ClsOk (KP P) := ⟨wire_ok P, wire_init P, exc_ok P⟩
theorem exc_all : ExcAll (KP P) where
  ok := exc_ok P
  rd := fun C h => by
    rcases h with rfl | rfl | rfl
    · exact exc_read_59 P
    · exact exc_read_71 P
    · exact exc_read_83 P
  only := fun C D hC hD hne nm q N bs bm hdct sn sub ab col dd k0 k1 k2 k3 k5 e => by
    refine notIn_ok ?_ e
    rcases hC with rfl | rfl | rfl <;> rcases hD with rfl | rfl | rfl <;> first | exact absurd rfl hne | kernel_rfl
end
end Mine
end

section
open PySem PySem.W PySem.Calls PyProof.Rows
set_option maxRecDepth 100000
set_option linter.unusedSimpArgs false
set_option linter.unusedVariables false
set_option maxHeartbeats 8000000
namespace Mine
section
variable {prog : Program} {w : World} {K : Frag} {FT : Addr → Option Fn} {p : Program} {loose : List Str} {mean : ExcName → Option Value} {mg mb : Str → Option Value} {g₀ : Heap}
noncomputable def Gh.all (h : Heap) : Gh := ⟨h.get?, fun _ => none⟩
theorem Inv.all (h : Heap) : Inv h (Gh.all h) [] [] h where
  base := fun _ _ e => e
  fz := fun _ _ e => e
  fs := fun _ h => nomatch h
  nd := .nil
  so := fun _ _ e => (nomatch e)
  lo := fun _ _ e => (nomatch e)
  inj := fun _ _ _ e => (nomatch e)

theorem fn_top (hFT : ∀ a f, FT a = some f → CF K a f) {n d : Nat} {A : Around} {s : Shared} {a : Addr} {as : List AV} {us : List Value} {Q : Value → Shared → Prop} {E : Value → Shared → Prop} (O : TopOk K p loose mean mg mb s.heap) (W : ClsOk K) (WE : ExcAll K) (hh : A.handled = none) (hfr : A.frames = some []) (hR : Room A (d + 1))
    (hx : evFn K FT (n + 1) (d + 1) a as [] = some (.ok (.bool true), [])) (ha : VRs (Gh.all s.heap) as us) (fin : ∀ h' tk, (∀ b o, s.heap.get? b = some o → h'.get? b = some o) → Q (.bool true) { s with heap := h', toks := tk }) :
    wpS (model prog w) A (call (.ref a) us) Q E s := by
  have AA := all (prog := prog) (w := w) hFT O W WE n n (Nat.le_refl _)
  have I := Inv.all s.heap
  rw [evFn_s] at hx
  split at hx
  · rename_i np nl ib hF
    split at hx
    · rename_i hnp
      obtain ⟨⟨oc, od, fd, sl, bd, hl, hb, ok, hcs, e1, e2⟩⟩ := hFT _ _ hF
      dsimp only at e1 e2 hcs
      subst e1 e2
      have F := okF_ok ok
      have ho : s.heap.get? a = some ⟨oc, od, .func fd, sl⟩ := O.X _ _ hl
      have hul : us.length = fd.params.args.length := ha.length.trans hnp.1
      have ndA : (fd.params.args.map (·.arg)).Nodup := by rw [← F.names]; exact F.nd.sublist (List.take_sublist _ _)
      have hbind := bind_plain F.p1 F.p2 F.p3 F.p4 F.dfl hul ndA
      refine wpS_call (codeS_def (Nat.lt_of_succ_lt (room_e hR.1)) ho rfl O.T.nolimit (codeRec_of O.X F.code) hb hbind F.cell (fun x hx => ?_) F.co F.gen F.kind fun h₀ hns kp => ?_)
      · obtain ⟨i, hi⟩ := List.mem_iff_getElem?.mp hx
        rw [List.getElem?_zip_eq_some] at hi
        obtain ⟨y, hy, e⟩ := List.mem_map.mp (List.mem_of_getElem? hi.1)
        rw [← e]; exact F.loc y hy
      · have I0 : Inv s.heap (Gh.all s.heap) ((s.heap.objs.size, frmP fun x => ((fd.params.args.map (·.arg)).zip us).reverse.lookup x) :: []) [] h₀ := I.push kp (get_size _) (Nat.le_refl _) (frmP.of hns)
        have hfr' : (callCx A fd s.heap.objs.size a).A.frames = some (callEnv fd s.heap.objs.size a :: []) := by
          show A.frames.map _ = _
          rw [hfr]; rfl
        have FrN : ∀ mm', FrIn ((s.heap.objs.size, frmP mm') :: []) (callEnv fd s.heap.objs.size a :: []) := fun mm' env he => by
          rcases List.mem_cons.mp he with rfl | he
          · exact ⟨by show fd.scope.kind ≠ _; rw [F.kind]; decide, _, _, rfl, .head _, Slt.frm _⟩
          · nomatch he
        have st0 : St s.heap (callCx A fd s.heap.objs.size a) [] d (as.map some ++ List.replicate (fd.scope.names.length - fd.params.args.length) none) [] (Gh.all s.heap) (fun x => ((fd.params.args.map (·.arg)).zip us).reverse.lookup x) h₀ := by
          refine ⟨I0, fun i x v hi hv => ?_, ⟨_, hfr', FrN _⟩, ?_⟩
          · have hlt : i < as.length := by
              rcases Nat.lt_or_ge i as.length with z | z
              · exact z
              · rw [List.getElem?_append_right (by simpa using z), List.getElem?_replicate] at hv
                split at hv <;> cases hv
            rw [List.getElem?_append_left (by simpa using hlt), List.getElem?_map] at hv
            simp only [Option.map_eq_some_iff] at hv
            obtain ⟨v', hv', e⟩ := hv
            cases e
            obtain ⟨u, hu, hr⟩ := ha.get hv'
            have hi' : (fd.params.args.map (·.arg))[i]? = some x := by
              rw [← F.names, List.getElem?_take, if_pos (by omega)]
              exact hi
            exact ⟨u, zip_lookup ndA (by simpa using hul) hi' hu, hr⟩
          · have h1 := hR.1
            have h2 := hR.2
            refine ⟨?_, ?_⟩
            · exact room_b h1
            · exact room_c h2
        have sub : SubS prog w s.heap (callCx A fd s.heap.objs.size a) [] d (execs bd (callEnv fd s.heap.objs.size a)) (fun m σ => evSs K FT n d ib m σ) := AA.ss d (callCx A fd s.heap.objs.size a) [] bd ib (callCx_ok F hh) ⟨[], hfr'⟩ hcs
        split at hx
        · cases hx
        · rename_i v m₁ σ₁ e1
          refine sub e1 st0 ⟨fun _ _ q => (nomatch q), fun v' m' σ' q mm' u g' h' tk le I' hu => ?_, fun _ _ _ q => (nomatch q)⟩
          cases q
          have hv : v = .bool true := by
            split at hx
            · cases hx; rfl
            · split at hx
              · cases hx; rfl
              · cases hx
          subst hv
          rw [show u = .bool true from hu]
          exact fin h' tk fun b o e => I'.fz _ _ (I'.base _ _ e)
        · cases hx
        · cases hx
    · cases hx
  · cases hx
end
theorem VRs.ints {g : Gh} : ∀ {us : List Value} {zs : List Int}, IntsAre us zs → VRs g (zs.map .int) us := by
  intro us zs h
  induction h with
  | nil => rfl
  | cons i t _ ih => exact ⟨_, _, rfl, ⟨t, rfl⟩, ih⟩
theorem room_top : Room callerA 20 := ⟨by decide, by decide⟩
end Mine
end

section
open PySem PySem.W PySem.Calls PyProof.Rows
set_option maxRecDepth 100000
set_option linter.unusedVariables false
set_option maxHeartbeats 8000000
namespace Mine
noncomputable def adrs : List Addr := [2, 3, 15, 17, 18, 20, 21, 22, 29, 30, 32, 33, 35, 36, 37, 39, 40, 42, 43, 44, 45, 46, 47, 50, 57, 58, 59, 62, 69, 70, 71, 74, 81, 82, 83, 86, 88, 89, 91, 92, 93, 96, 97, 98, 101, 102, 103, 106, 107, 108, 111, 112, 113, 114, 116, 117, 119, 120, 121, 123, 124, 126, 127, 128, 130, 131, 133, 134, 135, 138, 139, 140, 143, 144, 145, 147, 148, 150, 151, 152, 154, 155, 157, 158, 159, 161, 162, 164, 165, 173, 175, 176, 178, 179, 180, 182, 183, 185, 186, 187, 188, 189, 190, 191, 194, 196, 197, 199, 200, 201, 203, 204, 206, 207, 208, 210, 211, 213, 214, 215, 217, 218, 220, 221, 222, 224, 225, 227, 228, 229, 231, 232, 234, 235, 243, 244, 246, 247, 249, 250, 251, 253, 254, 256, 257, 258, 260, 261, 263, 264, 265, 267, 268, 270, 271, 272, 274, 275, 277, 278, 279, 281, 282, 284, 285, 286, 288, 289, 291, 292, 293, 295, 296, 298, 299, 300, 302, 303, 305, 306, 307, 309, 310, 312, 313, 314, 316, 317, 319, 320, 321, 323, 324, 326, 327, 328, 330, 331, 333, 334, 335, 337, 338, 340, 341, 342, 344, 345, 347, 348, 349, 351, 352, 354, 355, 356, 358, 359, 361, 362, 363, 365, 366, 368, 369, 370, 372, 373, 375, 376, 377, 379, 380, 382, 383, 384, 386, 387, 389, 390, 391, 393, 394, 396, 397, 398, 400, 401, 403, 404, 405, 408, 409, 410, 411, 413, 414, 416, 417, 418, 419, 420, 421, 422, 425, 426, 427, 428, 429, 430, 431, 432, 433, 434, 435, 436, 437, 438, 439, 440, 441, 442, 443, 444, 445, 446, 447, 448, 450, 451, 453, 454, 455, 457, 458, 460, 461, 462, 465, 466, 467, 469, 470, 472, 473, 474, 477, 478, 479, 482, 483]
-- the names of twins that the head would make: taken ahead, so that it goes without them (their proofs are quadratic in the names: 60 MB)
theorem fin.tw16407147864228438881 : True := trivial
theorem fin.tw13874079823792681176 : True := trivial
theorem fin.tw14142754788403991900 : True := trivial
theorem fin.tw16231923513822398981 : True := trivial
theorem fin.tw15404779385268061136 : True := trivial
theorem fin.tw8303820723863979226 : True := trivial
theorem fin.tw244944058534012095 : True := trivial
theorem fin.tw14411825300668909728 : True := trivial
theorem fin.tw10891054232620793217 : True := trivial
theorem fin.tw408639608801826244 : True := trivial
theorem fin.tw3912488439876925007 : True := trivial
theorem fin.tw6212231773793914550 : True := trivial
theorem fin.tw4232310507111121658 : True := trivial
theorem fin.tw17682806996416514929 : True := trivial
theorem fin.tw12304228606943202825 : True := trivial
theorem fin.tw4676172222709878277 : True := trivial
theorem fin.tw14495431336439861174 : True := trivial
theorem fin.tw14332859949639240327 : True := trivial
theorem fin.tw16889484823980962733 : True := trivial
theorem fin.tw17434812882584663159 : True := trivial
theorem fin.tw1243297681173986017 : True := trivial
theorem fin.tw16471564285230226018 : True := trivial
theorem fin.tw8462624477310905004 : True := trivial
theorem fin.tw11112386831996348380 : True := trivial
theorem fin.tw14425540821336420448 : True := trivial
theorem fin.tw6907013181778514091 : True := trivial
theorem fin.tw9825859731914700964 : True := trivial
theorem fin.tw8569027658895312972 : True := trivial
theorem fin.tw3211687289105081006 : True := trivial
theorem fin.tw11587955951900863698 : True := trivial
theorem fin.tw17717364068325071970 : True := trivial
theorem fin.tw1951045429614898598 : True := trivial
theorem fin.tw423345284130997744 : True := trivial
theorem fin.tw7930893340574950883 : True := trivial
theorem fin.tw4312942655851389009 : True := trivial
theorem fin.tw15688172546075569117 : True := trivial
theorem fin.tw4209717502836232480 : True := trivial
theorem fin.tw4723787954990577340 : True := trivial
theorem fin.tw15216479089859931547 : True := trivial
theorem fin.tw11454252539852477091 : True := trivial
theorem fin.tw13337293482115323266 : True := trivial
theorem fin.tw7439575562449295702 : True := trivial
theorem fin.tw16175276709679454751 : True := trivial
theorem fin.tw7976502392129159676 : True := trivial
theorem fin.tw16229209127682248589 : True := trivial
theorem fin.tw6667815254911646788 : True := trivial
theorem fin.tw17149882997012438147 : True := trivial
theorem fin.tw3955986520655104412 : True := trivial
theorem fin.tw17896612028031085017 : True := trivial
theorem fin.tw428092273266315144 : True := trivial
theorem fin.tw16906536467411238026 : True := trivial
theorem fin.tw1625080806587739848 : True := trivial
theorem fin.tw16510490156224867327 : True := trivial
theorem fin.tw3199103547748192838 : True := trivial
theorem fin.tw4928979718650693569 : True := trivial
theorem fin.tw6058378993454661626 : True := trivial
theorem fin.tw17416127249078093707 : True := trivial
theorem fin.tw6341822008880759003 : True := trivial
theorem fin.tw6712194924023145494 : True := trivial
theorem fin.tw2067723777617599883 : True := trivial
theorem fin.tw1544503264643628384 : True := trivial
theorem fin.tw4395496475954998127 : True := trivial
theorem fin.tw15566928917628492161 : True := trivial
theorem fin.tw16252508478716706905 : True := trivial
theorem fin.tw15523922138108190246 : True := trivial
theorem fin.tw9001875181463519149 : True := trivial
theorem fin.tw7830629276484211593 : True := trivial
theorem fin.tw4588413851689716618 : True := trivial
theorem fin.tw10852849658779182186 : True := trivial
theorem fin.tw1128348596072947701 : True := trivial
theorem fin.tw18295790063311454060 : True := trivial
theorem fin.tw4180101509539245183 : True := trivial
theorem fin.tw15309079848183770524 : True := trivial
theorem fin.tw17130245016438642246 : True := trivial
theorem fin.tw3112429581023547943 : True := trivial
theorem fin.tw828056024939588000 : True := trivial
theorem fin.tw13574545013463194659 : True := trivial
theorem fin.tw17123178472405020103 : True := trivial
theorem fin.tw4878226113927451544 : True := trivial
theorem fin.tw6766378078585498003 : True := trivial
theorem fin.tw4769821431679368130 : True := trivial
theorem fin.tw7995362448368537469 : True := trivial
theorem fin.tw5250828734511838712 : True := trivial
theorem fin.tw7380833856163905736 : True := trivial
theorem fin.tw5962627729488381771 : True := trivial
theorem fin.tw3506512066687448480 : True := trivial
theorem fin.tw12347537446847802165 : True := trivial
theorem fin.tw3105451386036433885 : True := trivial
theorem fin.tw1545086475593560577 : True := trivial
theorem fin.tw6718411051458867188 : True := trivial
theorem fin.tw13360279666012451719 : True := trivial
theorem fin.tw803859442106103436 : True := trivial
theorem fin.tw14075178694198228753 : True := trivial
theorem fin.tw16934629359412608497 : True := trivial
theorem fin.tw1560641971993327685 : True := trivial
theorem fin.tw9297318355482256503 : True := trivial
theorem fin.tw8261031787919469916 : True := trivial
theorem fin.tw9725021084223525626 : True := trivial
theorem fin.tw3885313090954376144 : True := trivial
theorem fin.tw14333544728242365436 : True := trivial
theorem fin.tw9997704412844104603 : True := trivial
theorem fin.tw1080700006314346644 : True := trivial
theorem fin.tw13021059552284102479 : True := trivial
theorem fin.tw4171678462856256454 : True := trivial
theorem fin.tw3974152918291533672 : True := trivial
theorem fin.tw9221430085559818832 : True := trivial
theorem fin.tw10580198807604790814 : True := trivial
theorem fin.tw3432132637015033673 : True := trivial
theorem fin.tw4100293265295638779 : True := trivial
theorem fin.tw15583698165555649274 : True := trivial
theorem fin.tw4043148821406017626 : True := trivial
theorem fin.tw11192643925408225281 : True := trivial
theorem fin.tw2910385600587045654 : True := trivial
theorem fin.tw10234915967203826555 : True := trivial
theorem fin.tw6449190631224713292 : True := trivial
theorem fin.tw14279960228734115912 : True := trivial
theorem fin.tw9218923581257491847 : True := trivial
theorem fin.tw982560976839675504 : True := trivial
theorem fin.tw2377308710366028375 : True := trivial
theorem fin.tw14679806638718605512 : True := trivial
theorem fin.tw3998398428148030388 : True := trivial
theorem fin.tw10782327089294195420 : True := trivial
theorem fin.tw4326780796455107134 : True := trivial
theorem fin.tw13898374239775968522 : True := trivial
theorem fin.tw12847644182280273618 : True := trivial
theorem fin.tw12946824338688289833 : True := trivial
theorem fin.tw12711679700452659978 : True := trivial
theorem fin.tw7334248845499685764 : True := trivial
theorem fin.tw8416529770105884409 : True := trivial
theorem fin.tw3810570522144960214 : True := trivial
theorem fin.tw1422313219903470601 : True := trivial
theorem fin.tw6498334528663615478 : True := trivial
theorem fin.tw8643116662766533202 : True := trivial
theorem fin.tw15201286185872193147 : True := trivial
theorem fin.tw9746214513668125432 : True := trivial
theorem fin.tw14541005305830221311 : True := trivial
theorem fin.tw10279692637995926009 : True := trivial
theorem fin.tw2789213428527533208 : True := trivial
theorem fin.tw612862322836996645 : True := trivial
theorem fin.tw4218790737952374519 : True := trivial
theorem fin.tw14254621764821748828 : True := trivial
theorem fin.tw7613945582906998725 : True := trivial
theorem fin.tw4924110625330727750 : True := trivial
theorem fin.tw1088692219920020602 : True := trivial
theorem fin.tw14134379338385194387 : True := trivial
theorem fin.tw7613857476909055813 : True := trivial
theorem fin.tw18105942590061964161 : True := trivial
theorem fin.tw1713156846745171867 : True := trivial
theorem fin.tw12135189313929291683 : True := trivial
theorem fin.tw6515953530934532768 : True := trivial
theorem fin.tw6289197191216398940 : True := trivial
theorem fin.tw17570709534508481193 : True := trivial
theorem fin.tw17041991840579044601 : True := trivial
theorem fin.tw8119881530291889089 : True := trivial
theorem fin.tw12669758225909598566 : True := trivial
theorem fin.tw12876064707754696378 : True := trivial
theorem fin.tw4162185377826839926 : True := trivial
theorem fin.tw17698704350827878285 : True := trivial
theorem fin.tw2656788454239962097 : True := trivial
theorem fin.tw1035503724928835527 : True := trivial
theorem fin.tw11227884535216515135 : True := trivial
theorem fin.tw6766580051018981234 : True := trivial
theorem fin.tw15533503492667675913 : True := trivial
theorem fin.tw5071919506433949198 : True := trivial
theorem fin.tw9917203430921899224 : True := trivial
theorem fin.tw8272817396058243321 : True := trivial
theorem fin.tw14855157385224911753 : True := trivial
theorem fin.tw9746901515087519452 : True := trivial
theorem fin.tw13093503161671486093 : True := trivial
theorem fin.tw9757074474933493440 : True := trivial
theorem fin.tw3767311804947220896 : True := trivial
theorem fin.tw2304379251839397102 : True := trivial
theorem fin.tw3837020019201816242 : True := trivial
theorem fin.tw5486226609284752418 : True := trivial
theorem fin.tw17662344363894024548 : True := trivial
theorem fin.tw5073790198343104882 : True := trivial
theorem fin.tw4144819383078699286 : True := trivial
theorem fin.tw2051409578822353534 : True := trivial
theorem fin.tw11147117730913898307 : True := trivial
theorem fin.tw7716820226725407877 : True := trivial
theorem fin.tw3794220679723124481 : True := trivial
theorem fin.tw12284014389350100970 : True := trivial
theorem fin.tw5115476493328737885 : True := trivial
theorem fin.tw17311274769643918242 : True := trivial
theorem fin.tw11293339424137598113 : True := trivial
theorem fin.tw2503846163805864124 : True := trivial
theorem fin.tw3404873503106905745 : True := trivial
theorem fin.tw3788772014149755174 : True := trivial
theorem fin.tw11154830654865731599 : True := trivial
theorem fin.tw12557769604369416430 : True := trivial
theorem fin.tw14111491100615862519 : True := trivial
theorem fin.tw15399907426655090358 : True := trivial
theorem fin.tw9913140749668108558 : True := trivial
theorem fin.tw17861066769153400444 : True := trivial
theorem fin.tw8025084765662995669 : True := trivial
theorem fin.tw15459455144867644326 : True := trivial
theorem fin.tw111200028466390044 : True := trivial
theorem fin.tw16488607150827929282 : True := trivial
theorem fin.tw4768634762848416435 : True := trivial
theorem fin.tw9247658263007524724 : True := trivial
theorem fin.tw7661832156752021035 : True := trivial
theorem fin.tw8330952907988395303 : True := trivial
theorem fin.tw16103849850496634939 : True := trivial
theorem fin.tw16256441300576474876 : True := trivial
theorem fin.tw10511823565363050587 : True := trivial
theorem fin.tw8288733244629462318 : True := trivial
theorem fin.tw10829458402184033698 : True := trivial
theorem fin.tw6323506392446703087 : True := trivial
theorem fin.tw1249118550022496774 : True := trivial
theorem fin.tw14166196953294261902 : True := trivial
theorem fin.tw12740692763255036000 : True := trivial
theorem fin.tw12550770813317053977 : True := trivial
theorem fin.tw3550807849831375056 : True := trivial
theorem fin.tw11061592194353771069 : True := trivial
theorem fin.tw8919302590299486024 : True := trivial
theorem fin.tw4598667867955821814 : True := trivial
theorem fin.tw16798467561266328274 : True := trivial
theorem fin.tw17570509445847580414 : True := trivial
theorem fin.tw5098551885099359569 : True := trivial
theorem fin.tw6531376189190222733 : True := trivial
theorem fin.tw12180539936304867106 : True := trivial
theorem fin.tw18373065035072037172 : True := trivial
theorem fin.tw11039862389202566683 : True := trivial
theorem fin.tw12141802397888321627 : True := trivial
theorem fin.tw3314143786362844604 : True := trivial
theorem fin.tw15741700470354863883 : True := trivial
theorem fin.tw846297522682114974 : True := trivial
theorem fin.tw2565351972500760935 : True := trivial
theorem fin.tw10599938827571368224 : True := trivial
theorem fin.tw8408514402456403777 : True := trivial
theorem fin.tw10708223146118651492 : True := trivial
theorem fin.tw17628183408451194143 : True := trivial
theorem fin.tw8352470293576582857 : True := trivial
theorem fin.tw3683778510129048087 : True := trivial
theorem fin.tw6525817661751114472 : True := trivial
theorem fin.tw14568449535678555946 : True := trivial
theorem fin.tw10147658903529517814 : True := trivial
theorem fin.tw7282745182861764756 : True := trivial
theorem fin.tw13177410634674063896 : True := trivial
theorem fin.tw16109372258727991565 : True := trivial
theorem fin.tw10391319463526535247 : True := trivial
theorem fin.tw1209720653154232198 : True := trivial
theorem fin.tw16540275574145912595 : True := trivial
theorem fin.tw5320702786494000081 : True := trivial
theorem fin.tw10807920368746810246 : True := trivial
theorem fin.tw6207176494656529804 : True := trivial
theorem fin.tw1635022588487117616 : True := trivial
theorem fin.tw9839346839192117915 : True := trivial
theorem fin.tw7822013112032934038 : True := trivial
theorem fin.tw12567809125941998234 : True := trivial
theorem fin.tw6381419901266130222 : True := trivial
theorem fin.tw14210890002308233579 : True := trivial
theorem fin.tw6081921254191324426 : True := trivial
theorem fin.tw3343445320678177929 : True := trivial
theorem fin.tw18082680734076937219 : True := trivial
theorem fin.tw17933470926392208243 : True := trivial
theorem fin.tw744865244796547220 : True := trivial
theorem fin.tw17260493314774615805 : True := trivial
theorem fin.tw12629903358213643309 : True := trivial
theorem fin.tw7522001649326652513 : True := trivial
theorem fin.tw8947099994592609211 : True := trivial
theorem fin.tw1012361349325877821 : True := trivial
theorem fin.tw4265850918314828415 : True := trivial
theorem fin.tw7055459427971326715 : True := trivial
theorem fin.tw500868675978126160 : True := trivial
theorem fin.tw12868640280835112553 : True := trivial
theorem fin.tw12291753297600562012 : True := trivial
theorem fin.tw4640724917100965312 : True := trivial
theorem fin.tw18195182924450695511 : True := trivial
theorem fin.tw10329872625359487480 : True := trivial
theorem fin.tw14139026862911339306 : True := trivial
theorem fin.tw4013537778516871869 : True := trivial
theorem fin.tw6454446336052903152 : True := trivial
theorem fin.tw18255404467826089762 : True := trivial
theorem fin.tw13815853411582834384 : True := trivial
theorem fin.tw5106123347721008290 : True := trivial
theorem fin.tw5266742908149448401 : True := trivial
theorem fin.tw12355744275394475900 : True := trivial
theorem fin.tw6815667921103612162 : True := trivial
theorem fin.tw799341379326975648 : True := trivial
theorem fin.tw2896703901015224195 : True := trivial
theorem fin.tw17204297501091165112 : True := trivial
theorem fin.tw14728723275428758510 : True := trivial
theorem fin.tw17743408960866722510 : True := trivial
theorem fin.tw15344004072050561172 : True := trivial
theorem fin.tw6400248389586479577 : True := trivial
theorem fin.tw10098057777631523497 : True := trivial
theorem fin.tw8656503046869711584 : True := trivial
theorem fin.tw12212933522069011988 : True := trivial
theorem fin.tw15225332579556243176 : True := trivial
theorem fin.tw888132650186811988 : True := trivial
theorem fin.tw2617349483901765261 : True := trivial
theorem fin.tw13516622038369049944 : True := trivial
theorem fin.tw13870153662132920491 : True := trivial
theorem fin.tw15094949803261831281 : True := trivial
theorem fin.tw6968583824967984638 : True := trivial
theorem fin.tw12149302876761508202 : True := trivial
theorem fin.tw8289400949097046189 : True := trivial
theorem fin.tw12237877928780879103 : True := trivial
theorem fin.tw3906754673857718949 : True := trivial
theorem fin.tw12809788781938459499 : True := trivial
theorem fin.tw14637358334870819178 : True := trivial
theorem fin.tw2976117146107443816 : True := trivial
theorem fin.tw10751089155417173751 : True := trivial
theorem fin.tw17719728818120068181 : True := trivial
theorem fin.tw373065315874586923 : True := trivial
theorem fin.tw11936995450923721628 : True := trivial
theorem fin.tw14109310954907245088 : True := trivial
theorem fin.tw12464766053444552404 : True := trivial
theorem fin.tw4424551920762525699 : True := trivial
theorem fin.tw12649782002744950493 : True := trivial
theorem fin.tw17449020081951674710 : True := trivial
theorem fin.tw7451905468542833597 : True := trivial
theorem fin.tw14856888987745899463 : True := trivial
theorem fin.tw17974384156558142227 : True := trivial
theorem fin.tw5196160543931855155 : True := trivial
theorem fin.tw4806268862455609328 : True := trivial
theorem fin.tw2608567993692976607 : True := trivial
theorem fin.tw11414119711712004833 : True := trivial
theorem fin.tw4684940682943077961 : True := trivial
theorem fin.tw4950403968356008110 : True := trivial
theorem fin.tw891787732878383699 : True := trivial
theorem fin.tw17637551073024348614 : True := trivial
theorem fin.tw16867096813858660809 : True := trivial
theorem fin.tw4170516301191304579 : True := trivial
theorem fin.tw17347454772498655404 : True := trivial
theorem fin.tw13326868189938593150 : True := trivial
theorem fin.tw17108682257543074861 : True := trivial
theorem fin.tw6232080684201472732 : True := trivial
theorem fin.tw14838103818555229697 : True := trivial
theorem fin.tw16307707646766795581 : True := trivial
theorem fin.tw5796354222422608987 : True := trivial
theorem fin.tw9735714214384596553 : True := trivial
theorem fin.tw4879674094562380441 : True := trivial
theorem fin.tw6127190174262240918 : True := trivial
theorem fin.tw6385529401280152062 : True := trivial
theorem fin.tw3975253019698251321 : True := trivial
theorem fin.tw4992356995671143779 : True := trivial
theorem fin.tw2316539691658765527 : True := trivial
theorem fin.tw848606289541702500 : True := trivial
theorem fin.tw7321584467024264148 : True := trivial
theorem fin.tw13383306551100868464 : True := trivial
theorem fin.tw5734618986648460908 : True := trivial
theorem fin.tw2671655128345628175 : True := trivial
theorem fin.tw13162651487661262736 : True := trivial
theorem fin.tw6388184931127306564 : True := trivial
theorem fin.tw13814004702073501669 : True := trivial
theorem fin.tw7278507554335971580 : True := trivial
theorem fin.tw3173534031939492945 : True := trivial
theorem fin.tw16196181902256332553 : True := trivial
theorem fin.tw12612204703400128841 : True := trivial
theorem fin.tw6566618420281934 : True := trivial
theorem fin.tw1105837973531982728 : True := trivial
theorem fin.tw17701328389417463424 : True := trivial
theorem fin.tw16275787546110486726 : True := trivial
theorem fin.tw18387650150990424433 : True := trivial
theorem fin.tw6474043946942992101 : True := trivial
theorem fin.tw10383673109516279431 : True := trivial
theorem fin.tw5227809002895711924 : True := trivial
theorem fin.tw13790858721211988464 : True := trivial
theorem fin.tw12780881840741157306 : True := trivial
theorem fin.tw12221555665107904926 : True := trivial
theorem fin.tw5011121235533021005 : True := trivial
theorem fin.tw15590172107835277464 : True := trivial
theorem fin.tw8018989035897545986 : True := trivial
theorem fin.tw3302319216010004292 : True := trivial
theorem fin.tw9712136527352899355 : True := trivial
theorem fin.tw12696600883282566439 : True := trivial
theorem fin.tw12494888245299231016 : True := trivial
theorem fin.tw8590288500278120515 : True := trivial
theorem fin.tw11336253725339858928 : True := trivial
theorem fin.tw7021976415091001641 : True := trivial
theorem fin.tw13929302177132474383 : True := trivial
theorem fin.tw12962497063298326498 : True := trivial
theorem fin.tw16656299143469825513 : True := trivial
theorem fin.tw11209750170652599755 : True := trivial
theorem fin.tw16496857829328116044 : True := trivial
theorem fin.tw9524518906428321964 : True := trivial
theorem fin.tw12292906935544458286 : True := trivial
theorem fin.tw17971676594858020690 : True := trivial
theorem fin.tw2090205506522743130 : True := trivial
theorem fin.tw6650461044873433052 : True := trivial
theorem fin.tw15373703851562958014 : True := trivial
theorem fin.tw5402249366112354979 : True := trivial
theorem fin.tw12718612220689870738 : True := trivial
theorem fin.tw17801579834951734752 : True := trivial
theorem fin.tw9544026089342320630 : True := trivial
theorem fin.tw11040825799340251285 : True := trivial
theorem fin.tw9962418760945406050 : True := trivial
theorem fin.tw3857263333814641470 : True := trivial
theorem fin.tw15989303212955285315 : True := trivial
theorem fin.tw15621619335703214680 : True := trivial
theorem fin.tw15476544859757588837 : True := trivial
theorem fin.tw8281523328739849912 : True := trivial
theorem fin.tw10393886385942881009 : True := trivial
theorem fin.tw15832999045522443761 : True := trivial
theorem fin.tw11615019562542576733 : True := trivial
theorem fin.tw895571856199123645 : True := trivial
theorem fin.tw3125960719983571848 : True := trivial
theorem fin.tw12932903420030652473 : True := trivial
theorem fin.tw6956187926921108005 : True := trivial
theorem fin.tw1963134401048803436 : True := trivial
theorem fin.tw17495881415371897999 : True := trivial
theorem fin.tw11575174756993882273 : True := trivial
theorem fin.tw8383268338085895543 : True := trivial
theorem fin.tw17512474026176034454 : True := trivial
theorem fin.tw10671828304227620169 : True := trivial
theorem fin.tw14345562132136545540 : True := trivial
theorem fin.tw5901363791540438844 : True := trivial
theorem fin.tw3456623496861543869 : True := trivial
theorem fin.tw3762306804915933987 : True := trivial
theorem fin.tw8577089030196625639 : True := trivial
theorem fin.tw7779959011674639804 : True := trivial
theorem fin.tw13066358836101814915 : True := trivial
theorem fin.tw8999559765510592377 : True := trivial
theorem fin.tw10196768644732416780 : True := trivial
theorem fin.tw11079828417688620724 : True := trivial
theorem fin.tw4443050520305737185 : True := trivial
theorem fin.tw4898026214463823928 : True := trivial
theorem fin.tw11151619158091525091 : True := trivial
theorem fin.tw9387745189664136937 : True := trivial
theorem fin.tw11277574374343807151 : True := trivial
theorem fin.tw6634307039904815820 : True := trivial
theorem fin.tw17963964198891936676 : True := trivial
theorem fin.tw17784850919643140607 : True := trivial
theorem fin.tw10895054467252067526 : True := trivial
theorem fin.tw12171577908484138354 : True := trivial
theorem fin.tw18105285910621931680 : True := trivial
theorem fin.tw1535588207084551279 : True := trivial
theorem fin.tw6846200578177281708 : True := trivial
theorem fin.tw857469055436470443 : True := trivial
theorem fin.tw5678346346211369953 : True := trivial
theorem fin.tw17164383140453370395 : True := trivial
theorem fin.tw12448240930570709186 : True := trivial
theorem fin.tw670465573061467203 : True := trivial
theorem fin.tw4868334931027891882 : True := trivial
theorem fin.tw13423622936843584764 : True := trivial
theorem fin.tw3029852977388229646 : True := trivial
theorem fin.tw2537931557510868981 : True := trivial
theorem fin.tw9445451236469955387 : True := trivial
theorem fin.tw18230178534529381785 : True := trivial
theorem fin.tw8331973007464152698 : True := trivial
theorem fin.tw8614737586434602478 : True := trivial
theorem fin.tw3810338749695602999 : True := trivial
theorem fin.tw11607805686811502034 : True := trivial
theorem fin.tw10939691994893167182 : True := trivial
theorem fin.tw12356021495744459628 : True := trivial
theorem fin.tw11466478281803324712 : True := trivial
theorem fin.tw16584127079891442865 : True := trivial
theorem fin.tw3863403702602939814 : True := trivial
theorem fin.tw15815952407149668801 : True := trivial
theorem fin.tw9509447333196811905 : True := trivial
theorem fin.tw6878024787957991413 : True := trivial
theorem fin.tw5555312102172926907 : True := trivial
theorem fin.tw3268265519342814607 : True := trivial
theorem fin.tw16401934584784274106 : True := trivial
theorem fin.tw14497727239971306367 : True := trivial
theorem fin.tw7675655780812522254 : True := trivial
theorem fin.tw1252854909445205041 : True := trivial
theorem fin.tw14560573928864763818 : True := trivial
theorem fin.tw13158425560686309300 : True := trivial
theorem fin.tw480829909506669009 : True := trivial
theorem fin.tw6380807493870290408 : True := trivial
theorem fin.tw333583748066197110 : True := trivial
theorem fin.tw1666694428299288667 : True := trivial
theorem fin.tw4329306826757983850 : True := trivial
theorem fin.tw12996517811204074000 : True := trivial
theorem fin.tw9260378047223084069 : True := trivial
theorem fin.tw10696652717036330658 : True := trivial
theorem fin.tw2775396313129547428 : True := trivial
theorem fin.tw10070804522480449196 : True := trivial
theorem fin.tw6485783843944922600 : True := trivial
theorem fin.tw7844069586390513008 : True := trivial
theorem fin.tw4570111826955561243 : True := trivial
theorem fin.tw17362494058136835672 : True := trivial
theorem fin.tw5679570950571409650 : True := trivial
theorem fin.tw1976505206021243879 : True := trivial
theorem fin.tw1390109508276135513 : True := trivial
theorem fin.tw15144710454662140524 : True := trivial
theorem fin.tw14517287926952318261 : True := trivial
theorem fin.tw7249652514872940865 : True := trivial
theorem fin.tw6567050819087999508 : True := trivial
theorem fin.tw4613182775407389354 : True := trivial
theorem fin.tw11414674201277728305 : True := trivial
theorem fin.tw8896352889252549814 : True := trivial
theorem fin.tw11953781441336167498 : True := trivial
theorem fin.tw18164189302063226315 : True := trivial
theorem fin.tw8126443298418566877 : True := trivial
theorem fin.tw16570786720924097770 : True := trivial
theorem fin.tw1014637456484912126 : True := trivial
theorem fin.tw5634151482396758240 : True := trivial
theorem fin.tw10925335251469727208 : True := trivial
theorem fin.tw2866121171748074186 : True := trivial
theorem fin.tw7929640520542984453 : True := trivial
theorem fin.tw9806666330580929782 : True := trivial
theorem fin.tw884059145510264010 : True := trivial
theorem fin.tw10007411396671696613 : True := trivial
theorem fin.tw3004984022683251337 : True := trivial
theorem fin.tw9610726530385051774 : True := trivial
theorem fin.tw1613116972386908190 : True := trivial
theorem fin.tw8399098705505230059 : True := trivial
theorem fin.tw1450881378762983150 : True := trivial
theorem fin.tw16269368082590959529 : True := trivial
theorem fin.tw5897612983314593646 : True := trivial
theorem fin.tw15427496739750414555 : True := trivial
theorem fin.tw5776136370200156792 : True := trivial
theorem fin.tw452842511749404161 : True := trivial
theorem fin.tw8668149382578428375 : True := trivial
theorem fin.tw7130589087949165531 : True := trivial
theorem fin.tw4754365596532378047 : True := trivial
theorem fin.tw16285329926789087883 : True := trivial
theorem fin.tw4788878847521262168 : True := trivial
theorem fin.tw13467322939085005891 : True := trivial
theorem fin.tw10875463905939285979 : True := trivial
theorem fin.tw14245171486683049214 : True := trivial
theorem fin.tw10242451874928486539 : True := trivial
theorem fin.tw1887099378405440850 : True := trivial
theorem fin.tw12869217540446652890 : True := trivial
theorem fin.tw1819255440876223710 : True := trivial
theorem fin.tw17197158672614542318 : True := trivial
theorem fin.tw216489041496292469 : True := trivial
theorem fin.tw11273041486466551846 : True := trivial
theorem fin.tw6455845175183424153 : True := trivial
theorem fin.tw6214469639950668122 : True := trivial
theorem fin.tw12876116671307685997 : True := trivial
theorem ns_law (P : Params) : nsIn (KP P) mainGlobals "law" = some (some (.ref 483)) := by kernel_rfl
set_option Elab.async true in
theorem fin : PySem.Challenge.rw_or0063_01.Holds := by
  w_on; o_law
  o_head (kHook grab.heap_1 adrs (fun _ => by kernel_rfl))
  (case hw => w_witness2)
  intro w s₀ s₁ mg mb G Y fa o pm cd doc dV kV ho hd hcd hD hmg hg args vals as hpre hlay hrd hwl hlo
  have KX := kIn_of Y
  refine Ground.open G ?_
  intro T B D TE TW
  have e := mg_of KX T.g (ns_law w.params)
  have e2 : fa = 483 := by
    have := hmg.symm.trans e
    simpa using this
  subst e2
  clear hd hD hcd ho hmg
  wrow_args hpre hlay hrd hwl hlo
  rename s₁.heap.IsList _ _ => hL
  rename IntsAre _ _ => hI
  rename ¬ _ < _ => hn
  obtain ⟨ob, hob, hcl, nn, hdt⟩ := hL
  refine fn_top (FT_ok w.params) (n := 1999) (d := 19) ⟨KX, T⟩ (cls_ok _) (exc_all _) rfl rfl room_top (law_ok w.params _ (by omega)) (VRs.cons ⟨_, ob, _, nn, rfl, hob, hcl, hdt, VRs.ints hI⟩ VRs.nil) fun h' tk keep => ?_
  refine ⟨.inl ⟨_, _, [], rfl, raisesW_false ?_, .bool true, ?_, unshared_nil⟩, .of_keep keep, rfl, .of_eq hg⟩
  · wrow_none_raised
  · wrow_post
end Mine
end

end
theorem PySem.Challenge.cw_or0063_01_holds : PySem.Challenge.rw_or0063_01.Holds :=
  Mine.fin
