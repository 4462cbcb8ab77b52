import PyProof.Rows.All
import Wide.All
import OpenK.AllK
import Wide.FinOn
import PySem.Challenge.RW_or0063_01
set_option Elab.async false
set_option maxRecDepth 100000
noncomputable section

section
open PySem PySem.W PyProof.Rows
set_option maxRecDepth 100000
namespace Mine

/-- a value as the little machine sees it -/
inductive AV where
  | none
  | bool (b : Bool)
  | int (i : Int)
  | str (s : List Nat)
  | bytes (b : List UInt8)
  | tup (vs : List AV)
  | val (v : Value)
  | loc (i : Nat)
  | wire (i : Nat)
  | fl (vs : List AV)

/-- an exception: just made; raised while nothing was handled; raised -/
inductive XS where
  | fresh
  | bare
  | any
  deriving DecidableEq
noncomputable def XS.says (vs : Array Value) : XS → Prop
  | .fresh => vs.size = 6 ∧ vs[1]? = some .none ∧ vs[2]? = some .none
  | .bare => vs[2]? = some .none
  | .any => True

/-- what is tracked: what may be changed -/
inductive TO where
  | list (vs : List AV)
  | wire (d : List UInt8) (a : Int)
  | barr (b : List UInt8)
  | exc (C : Addr) (a : Int) (x : XS)

/-- raised -/
noncomputable def Rsd (σ : List TO) (i : Nat) : Prop := ∃ C k b, σ[i]? = some (.exc C k b) ∧ b ≠ .fresh

/-- the ghost: what is frozen, and where the tracked things stand -/
structure Gh where
  frz : Addr → Option Obj
  loc : Nat → Option Addr

noncomputable def Gh.le (g g' : Gh) : Prop := (∀ b o, g.frz b = some o → g'.frz b = some o) ∧ ∀ i a, g.loc i = some a → g'.loc i = some a
theorem Gh.le.refl (g : Gh) : g.le g := ⟨fun _ _ e => e, fun _ _ e => e⟩
theorem Gh.le.trans {g₁ g₂ g₃ : Gh} (x : g₁.le g₂) (y : g₂.le g₃) : g₁.le g₃ := ⟨fun b o e => y.1 b o (x.1 b o e), fun i a e => y.2 i a (x.2 i a e)⟩

noncomputable abbrev tupObj (items : Array Value) (n : Nat) : Obj := { cls := .type "tuple", data := .seq items n }
noncomputable abbrev lstObj (items : Array Value) (n : Nat) : Obj := { cls := .type "list", data := .seq items n }

/-- the class Wire -/
noncomputable abbrev wireC : Addr := 420

mutual
noncomputable def VR (g : Gh) : AV → Value → Prop
  | .none, v => v = .none
  | .bool b, v => v = .bool b
  | .int i, v => ∃ t, v = .int i t
  | .str s, v => ∃ t, v = .str ⟨s.toArray⟩ t
  | .bytes b, v => ∃ t, v = .bytes b.toArray t
  | .tup vs, v => ∃ a items n, v = .ref a ∧ g.frz a = some (tupObj items n) ∧ VRs g vs items.toList
  | .val u, v => v = u
  | .loc i, v => ∃ a, v = .ref a ∧ g.loc i = some a
  | .wire i, v => ∃ x dx, v = .ref x ∧ g.frz x = some (instObj wireC dx) ∧ g.loc i = some dx
  | .fl vs, v => ∃ a o items n, v = .ref a ∧ g.frz a = some o ∧ o.cls = .type "list" ∧ o.data = .seq items n ∧ VRs g vs items.toList
noncomputable def VRs (g : Gh) : List AV → List Value → Prop
  | [], vs => vs = []
  | a :: as, vs => ∃ v vs', vs = v :: vs' ∧ VR g a v ∧ VRs g as vs'
end

mutual
theorem VR.mono {g g' : Gh} (k : g.le g') : ∀ {a : AV} {v : Value}, VR g a v → VR g' a v
  | .none, _, h => h
  | .bool _, _, h => h
  | .int _, _, h => h
  | .str _, _, h => h
  | .bytes _, _, h => h
  | .tup _, _, ⟨a, items, n, e, f, r⟩ => ⟨a, items, n, e, k.1 _ _ f, VRs.mono k r⟩
  | .val _, _, h => h
  | .loc _, _, ⟨a, e, l⟩ => ⟨a, e, k.2 _ _ l⟩
  | .wire _, _, ⟨x, dx, e, f, l⟩ => ⟨x, dx, e, k.1 _ _ f, k.2 _ _ l⟩
  | .fl _, _, ⟨a, o, items, n, e, f, h1, h2, r⟩ => ⟨a, o, items, n, e, k.1 _ _ f, h1, h2, VRs.mono k r⟩
theorem VRs.mono {g g' : Gh} (k : g.le g') : ∀ {as : List AV} {vs : List Value}, VRs g as vs → VRs g' as vs
  | [], _, h => h
  | _ :: _, _, ⟨v, vs', e, h, r⟩ => ⟨v, vs', e, VR.mono k h, VRs.mono k r⟩
end

theorem VRs.length {g : Gh} : ∀ {as : List AV} {vs : List Value}, VRs g as vs → vs.length = as.length
  | [], _, h => by rw [show _ = [] from h]; rfl
  | _ :: _, _, ⟨_, _, e, _, r⟩ => by rw [e, List.length_cons, List.length_cons, VRs.length r]
theorem VRs.get {g : Gh} : ∀ {as : List AV} {vs : List Value} {i : Nat} {a : AV}, VRs g as vs → as[i]? = some a → ∃ v, vs[i]? = some v ∧ VR g a v
  | [], _, i, _, _, e => by simp at e
  | a :: as, _, 0, x, ⟨v, vs', e, h, r⟩, q => by
    subst e
    simp only [List.getElem?_cons_zero, Option.some.injEq] at q
    subst q
    exact ⟨v, rfl, h⟩
  | a :: as, _, i + 1, x, ⟨v, vs', e, h, r⟩, q => by
    subst e
    rw [List.getElem?_cons_succ] at q
    obtain ⟨u, hu, hr⟩ := VRs.get r q
    exact ⟨u, by rw [List.getElem?_cons_succ]; exact hu, hr⟩
theorem VRs.append {g : Gh} : ∀ {as bs : List AV} {vs us : List Value}, VRs g as vs → VRs g bs us → VRs g (as ++ bs) (vs ++ us)
  | [], _, _, _, h, h' => by rw [show _ = [] from h]; exact h'
  | _ :: _, _, _, _, ⟨v, vs', e, h, r⟩, h' => by subst e; exact ⟨v, vs' ++ _, rfl, h, VRs.append r h'⟩
theorem VRs.drop {g : Gh} : ∀ {as : List AV} {vs : List Value} (n : Nat), VRs g as vs → VRs g (as.drop n) (vs.drop n)
  | as, vs, 0, h => h
  | [], vs, n + 1, h => by rw [show vs = [] from h]; exact (show VRs g [] [] from rfl)
  | _ :: as, vs, n + 1, ⟨v, vs', e, _, r⟩ => by subst e; exact VRs.drop n r
theorem VRs.take {g : Gh} : ∀ {as : List AV} {vs : List Value} (n : Nat), VRs g as vs → VRs g (as.take n) (vs.take n)
  | as, vs, 0, _ => (show VRs g [] [] from rfl)
  | [], vs, n + 1, h => by rw [show vs = [] from h]; exact (show VRs g [] [] from rfl)
  | a :: as, vs, n + 1, ⟨v, vs', e, h, r⟩ => by subst e; exact ⟨v, _, rfl, h, VRs.take n r⟩
theorem VRs.cons {g : Gh} {a : AV} {as : List AV} {v : Value} {vs : List Value} (h : VR g a v) (r : VRs g as vs) : VRs g (a :: as) (v :: vs) := ⟨v, vs, rfl, h, r⟩
theorem VRs.nil {g : Gh} : VRs g [] [] := rfl

/-- the entries of a wire's own dict -/
noncomputable abbrev wireEs (h1 : Int) (t1 : Tok) (v1 : Value) (h2 : Int) (t2 : Tok) (v2 : Value) : List DictEntry := [⟨h1, .str (Str.ofString "data") t1, v1⟩, ⟨h2, .str (Str.ofString "at") t2, v2⟩]
noncomputable abbrev excEs (h1 : Int) (t1 : Tok) (v1 : Value) (h2 : Int) (t2 : Tok) (v2 : Value) : List DictEntry := [⟨h1, .str (Str.ofString "what") t1, v1⟩, ⟨h2, .str (Str.ofString "at") t2, v2⟩]

/-- the ghost without the tracked -/
noncomputable def Gh.bare (g : Gh) : Gh := ⟨g.frz, fun _ => none⟩
theorem Gh.bare_le (g : Gh) : g.bare.le g := ⟨fun _ _ e => e, fun _ _ e => nomatch e⟩
theorem Gh.bare_mono {g g' : Gh} (k : g.le g') : g.bare.le g'.bare := ⟨k.1, fun _ _ e => nomatch e⟩

noncomputable def TR (g : Gh) (h : Heap) (a : Addr) : TO → Prop
  | .list vs => ∃ items n, h.get? a = some (lstObj items n) ∧ VRs g.bare vs items.toList
  | .wire d i => ∃ h1 t1 t1' h2 t2 t2' n, h.get? a = some (dictOf (wireEs h1 t1 (.bytes d.toArray t1') h2 t2 (.int i t2')) n)
  | .barr b => h.get? a = some { cls := .type "bytearray", data := .bytearray b.toArray 0 }
  | .exc C i b => ∃ dx vs sl h1 t1 v1 h2 t2 t2' n, h.get? a = some { cls := .ref C, dict := some dx, data := .fields vs, slots := sl } ∧ g.frz dx = some (dictOf (excEs h1 t1 v1 h2 t2 (.int i t2')) n) ∧ b.says vs

theorem TR.mono {g g' : Gh} {h h' : Heap} {a : Addr} (k : g.le g') (kh : ∀ o, h.get? a = some o → h'.get? a = some o) : ∀ {t : TO}, TR g h a t → TR g' h' a t
  | .list _, ⟨items, n, e, r⟩ => ⟨items, n, kh _ e, r.mono (Gh.bare_mono k)⟩
  | .wire _ _, ⟨h1, t1, t1', h2, t2, t2', n, e⟩ => ⟨h1, t1, t1', h2, t2, t2', n, kh _ e⟩
  | .barr _, e => kh _ e
  | .exc _ _ _, ⟨dx, vs, sl, h1, t1, v1, h2, t2, t2', n, e, f, z⟩ => ⟨dx, vs, sl, h1, t1, v1, h2, t2, t2', n, kh _ e, k.1 _ _ f, z⟩

/-- an object that is no record, whose names are m's -/
noncomputable def frmP (m : Str → Option Value) (o : Obj) : Prop := ∃ es ep, o.data = .dict es ep ∧ StrKeys es ∧ ∀ name, nsFind es name = m name
theorem frmP.ns {h : Heap} {L : Addr} {m : Str → Option Value} (x : ∃ o, h.get? L = some o ∧ frmP m o) : h.Ns L m := let ⟨o, ho, es, ep, r⟩ := x; ⟨o, es, ep, ho, r⟩
theorem frmP.of {h : Heap} {L : Addr} {m : Str → Option Value} (x : h.Ns L m) : ∃ o, h.get? L = some o ∧ frmP m o := let ⟨o, es, ep, ho, r⟩ := x; ⟨o, ho, es, ep, r⟩
/-- just this object -/
noncomputable def justP (o : Obj) (o' : Obj) : Prop := o' = o

/-- what stands beside: frames, and things that no one else changes -/
noncomputable abbrev Fm := Addr × (Obj → Prop)

/-- how the ghost, the frames and the tracked things stand in the heap -/
structure Inv (g₀ : Heap) (g : Gh) (fr : List Fm) (σ : List TO) (h : Heap) : Prop where
  base : ∀ b o, g₀.get? b = some o → g.frz b = some o
  fz : ∀ b o, g.frz b = some o → h.get? b = some o
  fs : ∀ p ∈ fr, (∃ o, h.get? p.1 = some o ∧ p.2 o) ∧ g.frz p.1 = none ∧ g₀.objs.size ≤ p.1
  nd : (fr.map (·.1)).Nodup
  so : ∀ i t, σ[i]? = some t → ∃ a, g.loc i = some a ∧ TR g h a t
  lo : ∀ i a, g.loc i = some a → i < σ.length ∧ g.frz a = none ∧ a ∉ fr.map (·.1) ∧ g₀.objs.size ≤ a
  inj : ∀ i j a, g.loc i = some a → g.loc j = some a → i = j

/-- may be changed: the frames and the tracked -/
noncomputable def Gh.mut (g : Gh) (fr : List Fm) (a : Addr) : Prop := a ∈ fr.map (·.1) ∨ ∃ i, g.loc i = some a

open Classical in
/-- all of h but what may be changed -/
noncomputable def Gh.grown (g : Gh) (fr : List Fm) (h : Heap) : Gh := ⟨fun b => if g.mut fr b then none else h.get? b, g.loc⟩

theorem TR.some {g : Gh} {h : Heap} {a : Addr} : ∀ {t : TO}, TR g h a t → ∃ o, h.get? a = some o
  | .list _, ⟨_, _, e, _⟩ => ⟨_, e⟩
  | .wire _ _, ⟨_, _, _, _, _, _, _, e⟩ => ⟨_, e⟩
  | .barr _, e => ⟨_, e⟩
  | .exc _ _ _, ⟨_, _, _, _, _, _, _, _, _, _, e, _⟩ => ⟨_, e⟩

section
variable {g₀ : Heap} {g g' : Gh} {fr : List Fm} {σ : List TO} {h h' : Heap}

theorem Inv.mut_none (I : Inv g₀ g fr σ h) {b : Addr} (m : g.mut fr b) : g.frz b = none := by
  rcases m with m | ⟨i, e⟩
  · obtain ⟨p, hp, e⟩ := List.mem_map.mp m
    exact e ▸ (I.fs p hp).2.1
  · exact (I.lo i b e).2.1
theorem Inv.mut_here (I : Inv g₀ g fr σ h) {b : Addr} (m : g.mut fr b) : ∃ o, h.get? b = some o := by
  rcases m with m | ⟨i, e⟩
  · obtain ⟨p, hp, e⟩ := List.mem_map.mp m
    obtain ⟨o, ho, _⟩ := (I.fs p hp).1
    exact ⟨o, e ▸ ho⟩
  · obtain ⟨hi, _⟩ := I.lo i b e
    obtain ⟨a, e', r⟩ := I.so i σ[i] (List.getElem?_eq_getElem hi)
    rw [e] at e'
    cases e'
    exact r.some

theorem Inv.grown_le (I : Inv g₀ g fr σ h) (k : ∀ b o, h.get? b = some o → h'.get? b = some o) : g.le (g.grown fr h') := by
  refine ⟨fun b o e => ?_, fun _ _ e => e⟩
  have : ¬ g.mut fr b := fun m => by rw [I.mut_none m] at e; cases e
  simp only [Gh.grown, this, if_false]
  exact k b o (I.fz b o e)

/-- nothing changed, something made -/
theorem Inv.grow (I : Inv g₀ g fr σ h) (k : ∀ b o, h.get? b = some o → h'.get? b = some o) : Inv g₀ (g.grown fr h') fr σ h' where
  base := fun b o e => (I.grown_le k).1 b o (I.base b o e)
  fz := fun b o e => by
    simp only [Gh.grown] at e
    split at e
    · cases e
    · exact e
  fs := fun p hp => ⟨let ⟨o, ho, q⟩ := (I.fs p hp).1; ⟨o, k _ _ ho, q⟩, by simp [Gh.grown, Gh.mut, List.mem_map_of_mem hp], (I.fs p hp).2.2⟩
  nd := I.nd
  so := fun i t e => let ⟨a, l, r⟩ := I.so i t e; ⟨a, l, r.mono (I.grown_le k) fun o q => k _ _ q⟩
  lo := fun i a l => ⟨(I.lo i a l).1, by
    have : g.mut fr a := .inr ⟨i, l⟩
    simp [Gh.grown, this], (I.lo i a l).2.2⟩
  inj := I.inj
theorem Inv.grown_new (I : Inv g₀ g fr σ h) {b : Addr} {o : Obj} (e : h'.get? b = some o) (hn : h.get? b = none) : (g.grown fr h').frz b = some o := by
  have : ¬ g.mut fr b := fun m => by
    obtain ⟨o', q⟩ := I.mut_here m
    rw [hn] at q; cases q
  simp only [Gh.grown, this, if_false]
  exact e

/-- the current frame's name is stored -/
theorem Inv.store {L : Addr} {m m' : Obj → Prop} (I : Inv g₀ g ((L, m) :: fr) σ h) (hn : ∃ o, h'.get? L = some o ∧ m' o) (hs : Heap.SameBut L h h') : Inv g₀ g ((L, m') :: fr) σ h' where
  base := I.base
  fz := fun b o e => (hs.2 b (fun q => by rw [q, (I.fs (L, m) (.head _)).2.1] at e; cases e)).trans (I.fz b o e)
  fs := fun p hp => by
    rcases List.mem_cons.mp hp with rfl | hp
    · exact ⟨hn, (I.fs (L, m) (.head _)).2⟩
    · have nd := I.nd
      rw [List.map_cons, List.nodup_cons] at nd
      obtain ⟨⟨o, ho, q⟩, r⟩ := I.fs p (.tail _ hp)
      exact ⟨⟨o, (hs.2 _ fun q => nd.1 (List.mem_map.mpr ⟨p, hp, q⟩)).trans ho, q⟩, r⟩
  nd := I.nd
  so := fun i t e => by
    obtain ⟨a, l, r⟩ := I.so i t e
    refine ⟨a, l, r.mono (Gh.le.refl g) fun o q => (hs.2 a fun z => ?_).trans q⟩
    exact (I.lo i a l).2.2.1 (by rw [z]; exact List.mem_cons_self)
  lo := I.lo
  inj := I.inj

/-- a tracked thing is changed -/
theorem Inv.set {i : Nat} {a : Addr} {t : TO} (I : Inv g₀ g fr σ h) (l : g.loc i = some a) (hs : Heap.SameBut a h h') (r : TR g h' a t) : Inv g₀ g fr (σ.set i t) h' where
  base := I.base
  fz := fun b o e => (hs.2 b (fun q => by rw [q, (I.lo i a l).2.1] at e; cases e)).trans (I.fz b o e)
  fs := fun p hp => by
    obtain ⟨⟨o, ho, q⟩, r⟩ := I.fs p hp
    exact ⟨⟨o, (hs.2 _ fun q => (I.lo i a l).2.2.1 (List.mem_map.mpr ⟨p, hp, q⟩)).trans ho, q⟩, r⟩
  nd := I.nd
  so := fun j u e => by
    rw [List.getElem?_set] at e
    by_cases hij : i = j
    · subst hij
      rw [if_pos rfl, if_pos (I.lo i a l).1] at e
      cases e
      exact ⟨a, l, r⟩
    · rw [if_neg hij] at e
      obtain ⟨b, l', r'⟩ := I.so j u e
      refine ⟨b, l', r'.mono (Gh.le.refl g) fun o q => (hs.2 b fun z => hij ?_).trans q⟩
      exact I.inj i j a l (z ▸ l')
  lo := fun j b q => by rw [List.length_set]; exact I.lo j b q
  inj := I.inj

open Classical in
/-- a made thing is tracked from here on -/
noncomputable def Gh.track (g : Gh) (n : Nat) (a : Addr) : Gh := ⟨fun b => if b = a then none else g.frz b, fun i => if i = n then some a else g.loc i⟩

/-- a made thing is tracked from here on (made behind the ghost) -/
theorem Inv.track {a : Addr} {t : TO} (I : Inv g₀ g fr σ h) (k : ∀ b o, h.get? b = some o → h'.get? b = some o) (hn : h.get? a = none) (hz : g₀.objs.size ≤ a)
    (r : TR ((g.grown fr h').track σ.length a) h' a t) : g.le ((g.grown fr h').track σ.length a) ∧ Inv g₀ ((g.grown fr h').track σ.length a) fr (σ ++ [t]) h' := by
  have J := I.grow k
  have na : ¬ g.mut fr a := fun m => by obtain ⟨o, q⟩ := I.mut_here m; rw [hn] at q; cases q
  have le : g.le ((g.grown fr h').track σ.length a) := by
    refine ⟨fun b o e => ?_, fun i b l => ?_⟩
    · have : b ≠ a := fun q => by rw [q] at e; rw [I.fz a o e] at hn; cases hn
      simp only [Gh.track, this, if_false]
      exact (I.grown_le k).1 b o e
    · have : i ≠ σ.length := Nat.ne_of_lt (I.lo i b l).1
      simp only [Gh.track, this, if_false]
      exact l
  refine ⟨le, ?_, fun b o e => ?_, fun p hp => ?_, I.nd, fun i u e => ?_, fun i b l => ?_, fun i j b l l' => ?_⟩
  · exact fun b o e => le.1 b o (I.base b o e)
  · simp only [Gh.track] at e
    split at e
    · cases e
    · exact J.fz b o e
  · refine ⟨(J.fs p hp).1, ?_, (J.fs p hp).2.2⟩
    simp only [Gh.track]
    split
    · rfl
    · exact (J.fs p hp).2.1
  · rw [List.getElem?_append] at e
    split at e
    · rename_i hi
      obtain ⟨b, l, q⟩ := I.so i u e
      exact ⟨b, le.2 i b l, q.mono le fun o z => k _ _ z⟩
    · rename_i hi
      have : i = σ.length := by
        rcases Nat.lt_or_ge (i - σ.length) 1 with z | z
        · omega
        · rw [List.getElem?_eq_none (by simpa using z)] at e; cases e
      subst this
      simp only [Nat.sub_self, List.getElem?_cons_zero, Option.some.injEq] at e
      subst e
      exact ⟨a, by simp [Gh.track], r⟩
  · simp only [Gh.track] at l
    rw [List.length_append]
    split at l
    · rename_i hi
      cases l
      refine ⟨by subst hi; simp, by simp [Gh.track], fun m => na (.inl m), hz⟩
    · obtain ⟨x1, x2, x3⟩ := J.lo i b l
      refine ⟨by simp; omega, ?_, x3⟩
      simp only [Gh.track]
      split
      · rfl
      · exact x2
  · simp only [Gh.track] at l l'
    split at l <;> split at l'
    · rename_i p q; rw [p, q]
    · cases l; exact (na (.inr ⟨j, l'⟩)).elim
    · cases l'; exact (na (.inr ⟨i, l⟩)).elim
    · exact I.inj i j b l l'

/-- a frame is entered -/
theorem Inv.push {L : Addr} {m : Obj → Prop} (I : Inv g₀ g fr σ h) (k : ∀ b o, h.get? b = some o → h'.get? b = some o) (hn : h.get? L = none) (hz : g₀.objs.size ≤ L) (ns : ∃ o, h'.get? L = some o ∧ m o) : Inv g₀ g ((L, m) :: fr) σ h' where
  base := I.base
  fz := fun b o e => k _ _ (I.fz b o e)
  fs := fun p hp => by
    rcases List.mem_cons.mp hp with rfl | hp
    · refine ⟨ns, ?_, hz⟩
      cases q : g.frz L with
      | none => rfl
      | some o => rw [I.fz L o q] at hn; cases hn
    · obtain ⟨⟨o, ho, q⟩, r⟩ := I.fs p hp
      exact ⟨⟨o, k _ _ ho, q⟩, r⟩
  nd := by
    rw [List.map_cons, List.nodup_cons]
    refine ⟨fun m => ?_, I.nd⟩
    obtain ⟨p, hp, e⟩ := List.mem_map.mp m
    obtain ⟨o, ho, _⟩ := (I.fs p hp).1
    have e' : p.1 = L := e
    rw [e', hn] at ho; cases ho
  so := fun i t e => let ⟨a, l, r⟩ := I.so i t e; ⟨a, l, r.mono (Gh.le.refl g) fun o q => k _ _ q⟩
  lo := fun i a l => by
    obtain ⟨x1, x2, x3, x4⟩ := I.lo i a l
    refine ⟨x1, x2, fun m => ?_, x4⟩
    rcases List.mem_cons.mp m with q | m
    · obtain ⟨o, z⟩ := I.mut_here (.inr ⟨i, l⟩)
      have q' : a = L := q
      rw [q', hn] at z; cases z
    · exact x3 m
  inj := I.inj

/-- what stood beside is let go -/
theorem Inv.pop0 {p : Fm} (I : Inv g₀ g (p :: fr) σ h) : Inv g₀ g fr σ h where
  base := I.base
  fz := I.fz
  fs := fun q hq => I.fs q (.tail _ hq)
  nd := (List.nodup_cons.mp I.nd).2
  so := I.so
  lo := fun i a l => let ⟨x1, x2, x3, x4⟩ := I.lo i a l; ⟨x1, x2, fun m => x3 (.tail _ m), x4⟩
  inj := I.inj
/-- what stood beside is frozen from here on -/
theorem Inv.fix {a : Addr} {o : Obj} (I : Inv g₀ g ((a, justP o) :: fr) σ h) : g.le (g.grown fr h) ∧ Inv g₀ (g.grown fr h) fr σ h ∧ (g.grown fr h).frz a = some o := by
  have J := I.pop0
  refine ⟨J.grown_le fun _ _ e => e, J.grow fun _ _ e => e, ?_⟩
  obtain ⟨⟨o', ho, q⟩, _⟩ := I.fs _ (.head _)
  have nm : ¬ g.mut fr a := by
    rintro (m | ⟨i, l⟩)
    · exact (List.nodup_cons.mp I.nd).1 m
    · exact (I.lo i a l).2.2.1 (.head _)
  simp only [Gh.grown, nm, if_false]
  rw [show o' = o from q] at ho
  exact ho
/-- a frame is left; what was tracked within is let go -/
theorem Inv.pop {p : Fm} {σ₁ : List TO} {g₁ : Gh} {h₁ : Heap} (I : Inv g₀ g (p :: fr) σ h) (I₁ : Inv g₀ g₁ fr σ₁ h₁) (le : g₁.le g) (hl : σ₁.length ≤ σ.length) :
    g₁.le ⟨g.frz, g₁.loc⟩ ∧ Inv g₀ ⟨g.frz, g₁.loc⟩ fr (σ.take σ₁.length) h := by
  refine ⟨⟨le.1, fun _ _ e => e⟩, I.base, I.fz, fun q hq => I.fs q (.tail _ hq), (List.nodup_cons.mp I.nd).2, fun i t e => ?_, fun i a l => ?_, I₁.inj⟩
  · have hi : i < σ₁.length := by
      rcases Nat.lt_or_ge i σ₁.length with z | z
      · exact z
      · rw [List.getElem?_eq_none (by rw [List.length_take]; omega)] at e; cases e
    rw [List.getElem?_take, if_pos hi] at e
    obtain ⟨a, l, r⟩ := I.so i t e
    obtain ⟨a', l', _⟩ := I₁.so i _ (List.getElem?_eq_getElem hi)
    rw [le.2 i a' l'] at l
    cases l
    exact ⟨_, l', by cases t <;> exact r⟩
  · have x := I₁.lo i a l
    have y := I.lo i a (le.2 i a l)
    exact ⟨by rw [List.length_take]; omega, y.2.1, x.2.2.1, x.2.2.2⟩
end

mutual
/-- no tracked thing within -/
noncomputable def AV.free : AV → Bool
  | .none | .bool _ | .int _ | .str _ | .bytes _ | .val _ => true
  | .loc _ | .wire _ => false
  | .tup vs => AV.frees vs
  | .fl vs => AV.frees vs
noncomputable def AV.frees : List AV → Bool
  | [] => true
  | a :: as => a.free && AV.frees as
end
mutual
theorem VR.bare {g : Gh} : ∀ {a : AV} {v : Value}, a.free = true → VR g a v → VR g.bare a v
  | .none, _, _, h => h
  | .bool _, _, _, h => h
  | .int _, _, _, h => h
  | .str _, _, _, h => h
  | .bytes _, _, _, h => h
  | .tup vs, _, f, ⟨a, items, n, e, z, r⟩ => ⟨a, items, n, e, z, VRs.bare (by simpa [AV.free] using f) r⟩
  | .val _, _, _, h => h
  | .loc _, _, f, _ => nomatch f
  | .wire _, _, f, _ => nomatch f
  | .fl vs, _, f, ⟨a, o, items, n, e, z, h1, h2, r⟩ => ⟨a, o, items, n, e, z, h1, h2, VRs.bare (by simpa [AV.free] using f) r⟩
theorem VRs.bare {g : Gh} : ∀ {as : List AV} {vs : List Value}, AV.frees as = true → VRs g as vs → VRs g.bare as vs
  | [], _, _, h => h
  | _ :: _, _, f, ⟨v, vs', e, h, r⟩ => by
    rw [AV.frees, Bool.and_eq_true] at f
    exact ⟨v, vs', e, VR.bare f.1 h, VRs.bare f.2 r⟩
end
end Mine
end

section
open PySem PySem.W PyProof.Rows
set_option maxRecDepth 100000
namespace Mine

inductive BK | add | sub | mul | mod | div
  deriving DecidableEq
inductive CK | eq | ne | lt | le | gt | ge | is | inn | nin
  deriving DecidableEq
inductive MK
  | split | lower | upper | pop | index | append | join
  | own (name : Str) (f : Addr)

inductive IE where
  | const (v : AV)
  | var (k : Nat)
  | not (e : IE)
  | and (es : List IE)
  | or (es : List IE)
  | ite (c a b : IE)
  | bin (k : BK) (a b : IE)
  | cmp (k : CK) (a b : IE)
  | cmp2 (k₁ k₂ : CK) (a b c : IE)
  | call (f : IE) (as : List IE)
  | meth (k : MK) (o : IE) (as : List IE)
  | at (o : IE)
  | data (o : IE)
  | sub (o i : IE)
  | slice (o : IE) (lo hi : Option IE)
  | tup (es : List IE)
  | list (es : List IE)
  | comp (iter elt : IE) (test : Option IE)

/-- a handler's suite -/
inductive HS where
  | asgAt (k j : Nat)
  | asgNone (k : Nat)
  | raise (C : Addr) (msg : List Nat) (j : Nat)

inductive IS where
  | asg (k : Nat) (e : IE)
  | asgC (k : Nat) (it el : IE) (t : Option IE)
  | asgAt (o e : IE)
  | asgT (ks : List Nat) (es : List IE)
  | expr (e : IE)
  | ret (e : IE)
  | ite (c : IE) (a b : List IS)
  | whil (c : IE) (b : List IS)
  | forr (ks : List Nat) (iter : IE) (b : List IS)
  | forRange (k : Nat) (hi : IE) (b : List IS)
  | raise (e : IE)
  | tryx (b : List IS) (hs : List (Addr × Option Nat × HS))

structure Fn where
  np : Nat
  nl : Nat
  body : List IS

noncomputable def toAV : Value → AV
  | .none => .none
  | .bool b => .bool b
  | .int i _ => .int i
  | .str s _ => .str s.cps.toList
  | .bytes b _ => .bytes b.toList
  | v => .val v

section compile
variable (K : Frag)

noncomputable def globV (id : Str) : Option Value := match nsIn K mainGlobals id with
  | some (some v) => some v
  | some none => if id = Str.ofString "__name__" then none else bootBuiltins id
  | none => none

noncomputable def cBin : Operator → Option BK
  | .Add => some .add
  | .Sub => some .sub
  | .Mult => some .mul
  | .Mod => some .mod
  | .FloorDiv => some .div
  | _ => none
noncomputable def cCmp : CmpOp → Option CK
  | .Eq => some .eq
  | .NotEq => some .ne
  | .Lt => some .lt
  | .LtE => some .le
  | .Gt => some .gt
  | .GtE => some .ge
  | .Is => some .is
  | .In => some .inn
  | .NotIn => some .nin
  | _ => none
noncomputable def cConst : Const → Option AV
  | .none => some .none
  | .bool b => some (.bool b)
  | .int i => some (.int i)
  | .str s => some (.str s.cps.toList)
  | .bytes b => some (.bytes b)
  | _ => none
/-- a method of Wire, by name -/
noncomputable def wireM (name : Str) : Option Addr := match findIn K (.ref wireC) name with
  | some (some (.ref f)) => if (plainGet K wireC name && isFn K (.ref f) && name != Str.ofString "data" && name != Str.ofString "at") = true then some f else none
  | _ => none
noncomputable def cMeth (name : Str) : Option MK :=
  if name = Str.ofString "split" then some .split
  else if name = Str.ofString "lower" then some .lower
  else if name = Str.ofString "upper" then some .upper
  else if name = Str.ofString "pop" then some .pop
  else if name = Str.ofString "index" then some .index
  else if name = Str.ofString "append" then some .append
  else if name = Str.ofString "join" then some .join
  else (wireM K name).map (.own name)

variable (locs : List Str) (sc : Scope)
noncomputable def cName (id : Str) : Option IE := if id = Str.ofString "__debug__" then none else match sc.names.lookup id with
  | some .local => (locs.findIdx? (· == id)).map .var
  | some .globalImplicit => (globV K id).map fun v => .const (toAV v)
  | _ => none
end compile
/-- the receiver of a method call: no call of a name -/
noncomputable def plainBase : Expr → Bool
  | .Call .. => false
  | _ => true
noncomputable def isName : Expr → Bool
  | .Name .. => true
  | _ => false
noncomputable def isComp : Expr → Bool
  | .ListComp .. => true
  | _ => false
/-- a comprehension's own table: plain -/
noncomputable def compOk (sc : Scope) (x : Str) : Bool := sc.kind == .function && sc.names.all (fun y => y.2 != .free && y.2 != .cell && (y.2 != .local || sc.names.lookup y.1 == some .local)) && sc.names.lookup x == some .local

mutual
noncomputable def cE (K : Frag) : Nat → List Str → Scope → Expr → Option IE
  | 0, _, _, _ => none
  | n + 1, locs, sc, e => match e with
    | .Constant c _ _ => (cConst c).map .const
    | .Name id _ => cName K locs sc id
    | .BoolOp .And es _ => if es.isEmpty = true then none else (cEs K n locs sc es).map .and
    | .BoolOp .Or es _ => if es.isEmpty = true then none else (cEs K n locs sc es).map .or
    | .UnaryOp .Not x _ => (cE K n locs sc x).map .not
    | .UnaryOp .USub (.Constant (.int i) _ _) _ => some (.const (.int (-i)))
    | .IfExp c a b _ => (cE K n locs sc c).bind fun c => (cE K n locs sc a).bind fun a => (cE K n locs sc b).map fun b => .ite c a b
    | .BinOp l op r _ => (cBin op).bind fun k => (cE K n locs sc l).bind fun a => (cE K n locs sc r).map fun b => .bin k a b
    | .Compare l [op] [r] _ => (cCmp op).bind fun k => (cE K n locs sc l).bind fun a => (cE K n locs sc r).map fun b => .cmp k a b
    | .Compare l [op, op'] [r, r'] _ => (cCmp op).bind fun k => (cCmp op').bind fun k' => (cE K n locs sc l).bind fun a => (cE K n locs sc r).bind fun b => (cE K n locs sc r').map fun c => .cmp2 k k' a b c
    | .Call (.Attribute o name apos) as [] pos => if (plainBase o && decide (as.length < 29) && (apos.endLine == pos.line)) = true then (cMeth K name).bind fun k => (cE K n locs sc o).bind fun o => (cEs K n locs sc as).map fun as => .meth k o as else none
    | .Call (.Name f _) as [] _ => (cName K locs sc f).bind fun f => (cEs K n locs sc as).map fun as => .call f as
    | .Attribute o name _ => if isName o = false then none else if name = Str.ofString "at" then (cE K n locs sc o).map .at else if name = Str.ofString "data" then (cE K n locs sc o).map .data else none
    | .Subscript o (.Slice lo hi none _) _ => (cE K n locs sc o).bind fun o => (cO K n locs sc lo).bind fun lo => (cO K n locs sc hi).map fun hi => .slice o lo hi
    | .Subscript o i _ => (cE K n locs sc o).bind fun o => (cE K n locs sc i).map fun i => .sub o i
    | .Tuple es _ _ => (cEs K n locs sc es).map .tup
    | .List es _ => (cEs K n locs sc es).map .list
    | .ListComp elt [⟨.Name x _, iter, [], 0⟩] csc _ => if compOk csc x = false then none else (cE K n locs sc iter).bind fun it => (cE K n [x] csc elt).map fun el => .comp it el none
    | .ListComp elt [⟨.Name x _, iter, [t], 0⟩] csc _ => if compOk csc x = false then none else (cE K n locs sc iter).bind fun it => (cE K n [x] csc elt).bind fun el => (cE K n [x] csc t).map fun t => .comp it el (some t)
    | _ => none
noncomputable def cEs (K : Frag) : Nat → List Str → Scope → List Expr → Option (List IE)
  | 0, _, _, _ => none
  | _ + 1, _, _, [] => some []
  | n + 1, locs, sc, e :: es => (cE K n locs sc e).bind fun e => (cEs K n locs sc es).map fun es => e :: es
noncomputable def cO (K : Frag) : Nat → List Str → Scope → Option Expr → Option (Option IE)
  | 0, _, _, _ => none
  | _ + 1, _, _, none => some none
  | n + 1, locs, sc, some e => (cE K n locs sc e).map some
end

section
variable (K : Frag) (locs : List Str) (sc : Scope)
noncomputable def locIx (x : Str) : Option Nat := match sc.names.lookup x with
  | some .local => locs.findIdx? (· == x)
  | _ => none
noncomputable def cTargets : List Expr → Option (List Nat)
  | [] => some []
  | .Name x _ :: r => (locIx locs sc x).bind fun k => (cTargets r).map (k :: ·)
  | _ => none
noncomputable def cSuite (fault : Option Str) : List Stmt → Option HS
  | [.Assign [.Name x _] (.Attribute (.Name y _) a _) _] => if some y = fault ∧ a = Str.ofString "at" ∧ y ≠ Str.ofString "__debug__" then (locIx locs sc x).bind fun k => (locIx locs sc y).map fun j => .asgAt k j else none
  | [.Assign [.Name x _] (.Constant .none _ _) _] => (locIx locs sc x).map .asgNone
  | [.Raise (some (.Call (.Name C _) [.Constant (.str msg) _ _, .Name y _] [] _)) none _] => if C = Str.ofString "__debug__" ∨ y = Str.ofString "__debug__" then none else match sc.names.lookup C, globV K C with
    | some .globalImplicit, some (.ref c) => (locIx locs sc y).map fun j => .raise c msg.cps.toList j
    | _, _ => none
  | _ => none
noncomputable def cHandlers : List ExceptHandler → Option (List (Addr × Option Nat × HS))
  | [] => some []
  | .ExceptHandler (some (.Name C _)) name body _ :: r => if C = Str.ofString "__debug__" then none else match sc.names.lookup C, globV K C with
    | some .globalImplicit, some (.ref c) => (match name with | none => some none | some x => (locIx locs sc x).map some).bind fun k => (cSuite K locs sc name body).bind fun s => (cHandlers r).map fun r => (c, k, s) :: r
    | _, _ => none
  | _ => none
end

noncomputable def swName (sc : Scope) (line : Nat) : Expr → Option Str
  | .Name id pos => if sc.names.lookup id == some .local && pos.line == line then some id else none
  | _ => none
/-- a tuple's items go to their names, the last first -/
noncomputable def swOk (sc : Scope) (ts es : List Expr) : Bool :=
  let names := ts.filterMap (swName sc ((ts.head?.map (·.pos.line)).getD 0))
  (ts.length == 2 || ts.length == 3) && es.length == ts.length && names.length == ts.length && names.eraseDups.length == names.length && !(es.all (foldedForSure 8)) && !(es.all (constantsAlone 8))
mutual
noncomputable def cS (K : Frag) : Nat → List Str → Scope → Stmt → Option IS
  | 0, _, _, _ => none
  | n + 1, locs, sc, s => match s with
    | .Assign [.Name x p] (.ListComp elt gens csc q) _ =>
      if (p.line == q.line && !(csc.names.any fun (n, k) => n == x && (k == .local || k == .cell))) = true then
        (locIx locs sc x).bind fun k => (cE K n locs sc (.ListComp elt gens csc q)).bind fun e => match e with
          | .comp it el t => some (.asgC k it el t)
          | _ => none
      else none
    | .Assign [.Name x _] e _ => (locIx locs sc x).bind fun k => (cE K n locs sc e).map fun e => .asg k e
    | .Assign [.Attribute o a _] e _ => if a = Str.ofString "at" then (cE K n locs sc o).bind fun o => (cE K n locs sc e).map fun e => .asgAt o e else none
    | .Assign [.Tuple ts _ _] (.Tuple es _ _) _ => if swOk sc ts es = false then none else (cTargets locs sc ts).bind fun ks => (cEs K n locs sc es).map fun es => .asgT ks es
    | .Expr e _ => if isComp e = true then none else (cE K n locs sc e).map .expr
    | .Return (some e) _ => (cE K n locs sc e).map .ret
    | .If c a b _ => (cE K n locs sc c).bind fun c => (cSs K n locs sc a).bind fun a => (cSs K n locs sc b).map fun b => .ite c a b
    | .While c b [] _ => (cE K n locs sc c).bind fun c => (cSs K n locs sc b).map fun b => .whil c b
    | .For (.Name x _) (.Call (.Name r _) [hi] [] _) b [] _ =>
      if r = Str.ofString "range" ∧ sc.names.lookup r = some .globalImplicit ∧ globV K r = some (.type "range") then
        (locIx locs sc x).bind fun k => (cE K n locs sc hi).bind fun hi => (cSs K n locs sc b).map fun b => .forRange k hi b
      else none
    | .For (.Name x _) it b [] _ => (locIx locs sc x).bind fun k => (cE K n locs sc it).bind fun it => (cSs K n locs sc b).map fun b => .forr [k] it b
    | .For (.Tuple ts _ _) it b [] _ => if ts.length = 1 then none else (cTargets locs sc ts).bind fun ks => (cE K n locs sc it).bind fun it => (cSs K n locs sc b).map fun b => .forr ks it b
    | .Raise (some e) none _ => (cE K n locs sc e).map .raise
    | .Try b hs [] [] _ => if hs.isEmpty = true then none else (cSs K n locs sc b).bind fun b => (cHandlers K locs sc hs).map fun hs => .tryx b hs
    | _ => none
noncomputable def cSs (K : Frag) : Nat → List Str → Scope → List Stmt → Option (List IS)
  | 0, _, _, _ => none
  | _ + 1, _, _, [] => some []
  | n + 1, locs, sc, s :: r => (cS K n locs sc s).bind fun s => (cSs K n locs sc r).map fun r => s :: r
end

noncomputable def paramsPlain (p : Arguments) : Bool := p.posonlyargs.isEmpty && p.vararg.isNone && p.kwonlyargs.isEmpty && p.kwarg.isNone
/-- a def without strange parts -/
noncomputable def okF (K : Frag) (fd : FuncData) : Bool :=
  paramsPlain fd.params && ((fd.scope.names.map (·.1)).take fd.params.args.length == fd.params.args.map (·.arg)) && decide ((fd.scope.names.map (·.1)).Nodup)
    && !fd.scope.isCoroutine && !fd.scope.isGenerator && fd.scope.kind == .function && fd.scope.names.all (fun x => x.2 != .cell)
    && fd.params.args.all (fun a => fd.scope.names.lookup a.arg == some .local) && codeIn K fd.code fd.qualname
    && fd.globals == mainGlobals && fd.closure.isEmpty && fd.builtins == builtinsNs && (match fd.defaults with | .none => true | _ => false)
/-- a def of the written top, compiled -/
noncomputable def cF (K : Frag) (a : Addr) : Option Fn := match K.lookup a with
  | some ⟨_, _, .func fd, _⟩ => match fd.body with
    | .stmts body =>
      if okF K fd = true then (cSs K 40 (fd.scope.names.map (·.1)) fd.scope body).map fun b => ⟨fd.params.args.length, fd.scope.names.length, b⟩
      else none
    | _ => none
  | _ => none
end Mine
end

section
open PySem PySem.W PyProof.Rows
set_option maxRecDepth 100000
namespace Mine

inductive Ex (α : Type) where
  | ok (a : α)
  | exc (i : Nat)
noncomputable abbrev R (α : Type) := Option (Ex α × List TO)
@[simp] def bnd {α β : Type} : R α → (α → List TO → R β) → R β
  | none, _ => none
  | some (.ok a, σ), f => f a σ
  | some (.exc i, σ), _ => some (.exc i, σ)
@[simp] def ret {α : Type} (a : α) (σ : List TO) : R α := some (.ok a, σ)
/-- pure: from an option -/
@[simp] def opt {α : Type} (x : Option α) (σ : List TO) : R α := x.map fun a => (.ok a, σ)
noncomputable abbrev Lo := List (Option AV)

/-- the items of a tuple: made, or of the written top -/
noncomputable def tupItems (K : Frag) : AV → Option (List AV)
  | .tup vs => some vs
  | .val (.ref a) => match K.lookup a with
    | some ⟨.type "tuple", none, .seq items _, sl⟩ => if sl.isEmpty then some (items.toList.map toAV) else none
    | _ => none
  | _ => none

noncomputable def binA : BK → AV → AV → Option AV
  | .add, .int a, .int b => some (.int (a + b))
  | .sub, .int a, .int b => some (.int (a - b))
  | .mul, .int a, .int b => if b = 10 then some (.int (a * b)) else none
  | .mod, .int a, .int b => if b = 0 then none else some (.int (a.fmod b))
  | .div, .int a, .int b => if b = 10 then some (.int (a.fdiv b)) else none
  | .add, .str a, .str b => if a.length + b.length ≤ 100000 then some (.str (a ++ b)) else none
  | .add, .bytes a, .bytes b => if a.length + b.length ≤ 100000 then some (.bytes (a ++ b)) else none
  | _, _, _ => none

mutual
/-- None, ints, tuples of such -/
noncomputable def dataT : AV → Option PyData
  | .none => some .none
  | .int i => some (.int i)
  | .tup vs => (dataTs vs).map .tuple
  | _ => none
noncomputable def dataTs : List AV → Option (List PyData)
  | [] => some []
  | a :: as => (dataT a).bind fun d => (dataTs as).map fun ds => d :: ds
end
noncomputable def dataTop (K : Frag) : AV → Option PyData
  | .val v => (tupItems K (.val v)).bind fun vs => (dataTs vs).map .tuple
  | a => dataT a
/-- an item that a list may bear where it is compared -/
noncomputable def plainA : AV → Bool
  | .int _ => true
  | .str s => s.all fun c => decide (c < 128)
  | _ => false
noncomputable def eqA (K : Frag) (σ : List TO) (a b : AV) : Option Bool := match a, b with
  | .loc i, .loc j => match σ[i]?, σ[j]? with
    | some (.list vs), some (.list []) => if vs.all plainA then some vs.isEmpty else none
    | _, _ => none
  | .str a, .str b => some (a == b)
  | .bytes a, .bytes b => some (a == b)
  | a, b => match dataTop K a, dataTop K b with
    | some da, some db => if SeqAt.shaped da && SeqAt.shaped db then some (PyData.eqv da db) else none
    | _, _ => none

noncomputable def strsOf : List AV → Option (List (List Nat))
  | [] => some []
  | .str s :: r => (strsOf r).map (s :: ·)
  | _ => none
noncomputable def intsOf : List AV → Option (List Int)
  | [] => some []
  | .int s :: r => (intsOf r).map (s :: ·)
  | _ => none
noncomputable def inA (K : Frag) (σ : List TO) (a b : AV) : Option Bool := match a, b with
  | .int c, .bytes l => if 0 ≤ c ∧ c < 256 then some (l.contains (UInt8.ofNat c.toNat)) else none
  | .str [c], .str l => some (l.contains c)
  | .str s, .loc i => match σ[i]? with
    | some (.list vs) => (strsOf vs).map (·.any (· == s))
    | _ => none
  | .str s, b => (tupItems K b).bind fun vs => (strsOf vs).map (·.any (· == s))
  | .int s, b => (tupItems K b).bind fun vs => (intsOf vs).map (·.any (· == s))
  | _, _ => none

noncomputable def cmpA (K : Frag) (σ : List TO) : CK → AV → AV → Option Bool
  | .eq, a, b => eqA K σ a b
  | .ne, a, b => (eqA K σ a b).map (!·)
  | .lt, .int a, .int b => some (decide (a < b))
  | .le, .int a, .int b => some (decide (a ≤ b))
  | .gt, .int a, .int b => some (decide (b < a))
  | .ge, .int a, .int b => some (decide (b ≤ a))
  | .le, .str [a], .str [b] => some (decide (a ≤ b))
  | .is, a, .none => match a with
    | .none => some true
    | .tup _ => some false
    | .int _ => some false
    | _ => none
  | .inn, a, b => inA K σ a b
  | .nin, a, b => (inA K σ a b).map (!·)
  | _, _, _ => none

noncomputable def lowerN (c : Nat) : Nat := if 65 ≤ c ∧ c ≤ 90 then c + 32 else c
noncomputable def upperN (c : Nat) : Nat := if 97 ≤ c ∧ c ≤ 122 then c - 32 else c
noncomputable def ascii (l : List Nat) : Bool := l.all fun c => decide (c < 128)

/-- split by one sign -/
noncomputable def splitL (c : Nat) : List Nat → List (List Nat)
  | [] => [[]]
  | x :: r => if x = c then [] :: splitL c r else match splitL c r with
    | [] => [[x]]
    | p :: ps => (x :: p) :: ps

noncomputable def figVal (l : List Nat) : Nat := l.foldl (fun n c => n * 10 + (c - 48)) 0
noncomputable def figs (l : List Nat) : Bool := l != [] && l.all fun c => decide (48 ≤ c ∧ c ≤ 57)

/-- a made list is tracked -/
@[simp] def mk (t : TO) (σ : List TO) : R AV := some (.ok (.loc σ.length), σ ++ [t])

noncomputable def subA (K : Frag) (σ : List TO) : AV → AV → Option AV
  | .bytes b, .int i => if 0 ≤ i ∧ b.length ≤ 100000 then (b[i.toNat]?).map fun c => .int (c.toNat : Int) else none
  | .loc k, .int i => match σ[k]? with
    | some (.list vs) => if 0 ≤ i ∧ i < 100000 then vs[i.toNat]? else none
    | _ => none
  | a, .int i => (tupItems K a).bind fun vs => if 0 ≤ i ∧ i < 100000 then vs[i.toNat]? else none
  | _, _ => none

noncomputable def sliceL {α : Type} (l : List α) (lo hi : Option Int) : Option (List α) :=
  let a := lo.getD 0
  let b := hi.getD l.length
  if 0 ≤ a ∧ 0 ≤ b ∧ l.length ≤ 100000 then some ((l.take b.toNat).drop a.toNat) else none
noncomputable def optI : Option AV → Option (Option Int)
  | none => some none
  | some (.int i) => some (some i)
  | _ => none
noncomputable def sliceA (σ : List TO) (o : AV) (lo hi : Option AV) : R AV := match optI lo, optI hi with
  | some lo, some hi => (match o with
    | .bytes b => opt ((sliceL b lo hi).map .bytes) σ
    | .str b => opt ((sliceL b lo hi).map .str) σ
    | .fl b => opt ((sliceL b lo hi).map .fl) σ
    | _ => none)
  | _, _ => none

noncomputable def joinA (vs : List AV) : Option AV := (strsOf vs).bind fun l => if l.all (fun s => decide (s.length = 1)) ∧ l.length ≤ 100000 then some (.str l.flatten) else none
noncomputable def bytesOfInts (l : List Int) : Option AV := if l.all (fun c => decide (0 ≤ c ∧ c < 256)) ∧ l.length ≤ 100000 then some (.bytes (l.map fun c => UInt8.ofNat c.toNat)) else none

/-- the built-in calls -/
noncomputable def callB (σ : List TO) (f : Value) (as : List AV) : R AV :=
  if f = .builtin "len" then match as with
    | [.str s] => if s.length ≤ 100000 then ret (.int s.length) σ else none
    | [.bytes s] => if s.length ≤ 100000 then ret (.int s.length) σ else none
    | [.loc i] => match σ[i]? with
      | some (.list vs) => if vs.length ≤ 100000 then ret (.int vs.length) σ else none
      | _ => none
    | _ => none
  else if f = .builtin "ord" then match as with
    | [.str [c]] => ret (.int c) σ
    | _ => none
  else if f = .builtin "chr" then match as with
    | [.int c] => if 0 ≤ c ∧ c < 256 then ret (.str [c.toNat]) σ else none
    | _ => none
  else if f = .type "bytes" then match as with
    | [.bytes b] => ret (.bytes b) σ
    | [.loc i] => match σ[i]? with
      | some (.list vs) => opt ((intsOf vs).bind bytesOfInts) σ
      | some (.barr b) => if b.length ≤ 100000 then ret (.bytes b) σ else none
      | _ => none
    | _ => none
  else if f = .type "bytearray" then match as with
    | [] => mk (.barr []) σ
    | _ => none
  else if f = .type "int" then match as with
    | [.str s] => if figs s = true ∧ s.length ≤ 100 then ret (.int (figVal s)) σ else none
    | [.int i] => ret (.int i) σ
    | _ => none
  else none

/-- the class calls -/
noncomputable def callC (σ : List TO) (C : Addr) (as : List AV) : R AV :=
  if C = wireC then match as with
    | [.bytes b] => some (.ok (.wire σ.length), σ ++ [.wire b 0])
    | _ => none
  else if C = 59 ∨ C = 71 ∨ C = 83 then match as with
    | [.str _, .int a] => mk (.exc C a .fresh) σ
    | _ => none
  else none

noncomputable def methB (K : Frag) (σ : List TO) : MK → AV → List AV → R AV
  | .split, .str s, [.str [c]] => if s.length ≤ 100000 then mk (.list ((splitL c s).map .str)) σ else none
  | .lower, .str s, [] => if ascii s = true ∧ s.length ≤ 100000 then ret (.str (s.map lowerN)) σ else none
  | .upper, .str s, [] => if ascii s = true ∧ s.length ≤ 100000 then ret (.str (s.map upperN)) σ else none
  | .pop, .loc i, [.int 0] => match σ[i]? with
    | some (.list (v :: vs)) => if vs.length ≤ 100000 then ret v (σ.set i (.list vs)) else none
    | _ => none
  | .index, .loc i, [.str s] => match σ[i]? with
    | some (.list vs) => if vs.length ≤ 100000 then opt ((strsOf vs).bind fun l => (l.findIdx? (· == s)).map fun (k : Nat) => AV.int (k : Int)) σ else none
    | _ => none
  | .index, o, [.str s] => opt ((tupItems K o).bind fun vs => (strsOf vs).bind fun l => (l.findIdx? (· == s)).map fun (k : Nat) => AV.int (k : Int)) σ
  | .append, .loc i, [.int c] => match σ[i]? with
    | some (.barr b) => if 0 ≤ c ∧ c < 256 ∧ b.length ≤ 100000 then ret .none (σ.set i (.barr (b ++ [UInt8.ofNat c.toNat]))) else none
    | _ => none
  | .join, .str [], [.loc i] => match σ[i]? with
    | some (.list vs) => opt (joinA vs) σ
    | _ => none
  | _, _, _ => none

/-- the kind of what is tracked -/
noncomputable def kindT (σ : List TO) : AV → Nat
  | .loc i => match σ[i]? with
    | some (.list _) => 1
    | some (.barr _) => 2
    | _ => 0
  | .wire i => match σ[i]? with
    | some (.wire _ _) => 4
    | _ => 0
  | _ => 3

/-- what a for loop walks -/
noncomputable def iterA (K : Frag) (σ : List TO) : AV → Option (List AV)
  | .str s => if ascii s = true then some (s.map fun c => .str [c]) else none
  | .bytes b => some (b.map fun c => .int (c.toNat : Int))
  | .fl vs => some vs
  | a => tupItems K a

inductive Out where
  | nxt
  | ret (v : AV)
  | exc (i : Nat)
noncomputable abbrev RS := Option (Out × Lo × List TO)

/-- an expression at a statement's start -/
@[simp] def stm {α : Type} (x : R α) (m : Lo) (F : α → List TO → RS) : RS := match x with
  | some (.ok a, σ) => F a σ
  | some (.exc i, σ) => some (.exc i, m, σ)
  | none => none

noncomputable def unA : List Nat → AV → Lo → Option Lo
  | [k], v, m => some (m.set k (some v))
  | _, _, _ => none
noncomputable def putAll : List Nat → List AV → Lo → Option Lo
  | [], [], m => some m
  | k :: ks, v :: vs, m => putAll ks vs (m.set k (some v))
  | _, _, _ => none

/-- what a turn puts into its names -/
noncomputable def putT (K : Frag) (ks : List Nat) (v : AV) (m : Lo) : Option Lo := match ks with
  | [k] => some (m.set k (some v))
  | ks => (tupItems K v).bind fun us => putAll ks us m

/-- the handlers, one after the other -/
noncomputable def evHs : List (Addr × Option Nat × HS) → Nat → Lo → List TO → RS
  | [], i, m, σ => some (.exc i, m, σ)
  | (C, x, s) :: r, i, m, σ => match σ[i]? with
    | some (.exc C' a xs) =>
      if (C = 59 ∨ C = 71 ∨ C = 83) ∧ (C' = 59 ∨ C' = 71 ∨ C' = 83) then (if C' = C then (match x, s with
        | none, .asgNone k => some (.nxt, m.set k (some .none), σ)
        | none, .raise D _ j => (match m[j]? with
          | some (some (.int b)) => if (D = 59 ∨ D = 71 ∨ D = 83) ∧ xs = .bare then some (.exc σ.length, m, σ ++ [.exc D b .any]) else none
          | _ => none)
        | some j, .asgAt k j' => if j = j' ∧ k ≠ j then some (.nxt, (m.set k (some (.int a))).set j none, σ) else none
        | _, _ => none)
      else evHs r i m σ) else none
    | _ => none

/-- all the evaluators, at one fuel -/
structure Ev where
  E : Nat → Lo → IE → List TO → R AV
  T : Nat → Lo → IE → List TO → R Bool
  All : Nat → Lo → Bool → List IE → List TO → R Bool
  Es : Nat → Lo → List IE → List TO → R (List AV)
  O : Nat → Lo → Option IE → List TO → R (Option AV)
  Comp : Nat → IE → Option IE → List AV → List TO → R (List AV)
  TO' : Nat → Lo → Option IE → List TO → R Bool
  Call : Nat → AV → List AV → List TO → R AV
  Fn' : Nat → Addr → List AV → List TO → R AV
  S : Nat → IS → Lo → List TO → RS
  For : Nat → List Nat → List AV → List IS → Lo → List TO → RS
  Ss : Nat → List IS → Lo → List TO → RS

section
variable (K : Frag) (FT : Addr → Option Fn) (r : Ev)
noncomputable def stE (d : Nat) (m : Lo) (e : IE) (σ : List TO) : R AV := match e with
    | .const v => ret v σ
    | .var k => match m[k]? with
      | some (some v) => ret v σ
      | _ => none
    | .not e => bnd (r.T d m e σ) fun b σ => ret (.bool (!b)) σ
    | .and es => bnd (r.All d m true es σ) fun b σ => ret (.bool b) σ
    | .or es => bnd (r.All d m false es σ) fun b σ => ret (.bool b) σ
    | .ite c a b => bnd (r.T d m c σ) fun t σ => if t then r.E d m a σ else r.E d m b σ
    | .bin k a b => bnd (r.E d m a σ) fun a σ => bnd (r.E d m b σ) fun b σ => opt (binA k a b) σ
    | .cmp k a b => bnd (r.E d m a σ) fun a σ => bnd (r.E d m b σ) fun b σ => opt ((cmpA K σ k a b).map .bool) σ
    | .cmp2 k₁ k₂ a b c => bnd (r.E d m a σ) fun a σ => bnd (r.E d m b σ) fun b σ => match cmpA K σ k₁ a b with
      | some true => bnd (r.E d m c σ) fun c σ => opt ((cmpA K σ k₂ b c).map .bool) σ
      | some false => ret (.bool false) σ
      | none => none
    | .call f as => bnd (r.E d m f σ) fun f σ => bnd (r.Es d m as σ) fun as σ => r.Call d f as σ
    | .meth k o as => bnd (r.E d m o σ) fun o σ₁ => match r.Es d m as σ₁ with
      | some (.ok as, σ) => (match k with
        | .own _ f => if kindT σ₁ o = 4 then r.Fn' d f (o :: as) σ else none
        | k => if kindT σ₁ o = kindT σ o then methB K σ k o as else none)
      | _ => none
    | .at o => bnd (r.E d m o σ) fun o σ => match o with
      | .wire i => match σ[i]? with
        | some (.wire _ a) => ret (.int a) σ
        | _ => none
      | _ => none
    | .data o => bnd (r.E d m o σ) fun o σ => match o with
      | .wire i => match σ[i]? with
        | some (.wire b _) => ret (.bytes b) σ
        | _ => none
      | _ => none
    | .sub o i => bnd (r.E d m o σ) fun o σ => bnd (r.E d m i σ) fun i σ => opt (subA K σ o i) σ
    | .slice o lo hi => bnd (r.E d m o σ) fun o σ => bnd (r.O d m lo σ) fun lo σ => bnd (r.O d m hi σ) fun hi σ => sliceA σ o lo hi
    | .tup es => bnd (r.Es d m es σ) fun vs σ => if vs.length ≤ 100 then ret (.tup vs) σ else none
    | .list es => bnd (r.Es d m es σ) fun vs σ => if AV.frees vs && vs.length ≤ 100 then mk (.list vs) σ else none
    | .comp it el t => bnd (r.E d m it σ) fun o σ => match iterA K σ o with
      | some vs => bnd (r.Comp d el t vs σ) fun vs σ => if AV.frees vs && vs.length ≤ 100000 then mk (.list vs) σ else none
      | none => none
/-- a test -/
noncomputable def stT (d : Nat) (m : Lo) (e : IE) (σ : List TO) : R Bool := bnd (r.E d m e σ) fun v σ => match v with
    | .bool b => ret b σ
    | _ => none
noncomputable def stAll (d : Nat) (m : Lo) (a : Bool) (es : List IE) (σ : List TO) : R Bool := match es with
  | [] => ret a σ
  | e :: es => bnd (r.T d m e σ) fun b σ => if b = a then r.All d m a es σ else ret (!a) σ
noncomputable def stEs (d : Nat) (m : Lo) (es : List IE) (σ : List TO) : R (List AV) := match es with
  | [] => ret [] σ
  | e :: es => bnd (r.E d m e σ) fun v σ => bnd (r.Es d m es σ) fun vs σ => ret (v :: vs) σ
noncomputable def stO (d : Nat) (m : Lo) (e : Option IE) (σ : List TO) : R (Option AV) := match e with
  | none => ret none σ
  | some e => bnd (r.E d m e σ) fun v σ => ret (some v) σ
/-- a comprehension's items: no item may make a tracked thing or raise -/
noncomputable def stComp (d : Nat) (el : IE) (t : Option IE) (vs : List AV) (σ : List TO) : R (List AV) := match vs with
  | [] => ret [] σ
  | v :: vs => match r.TO' d [some v] t σ with
    | some (.ok true, σ) => (match r.E d [some v] el σ with
      | some (.ok x, σ) => bnd (r.Comp d el t vs σ) fun xs σ => ret (x :: xs) σ
      | _ => none)
    | some (.ok false, σ) => r.Comp d el t vs σ
    | _ => none
/-- a test that may lack -/
noncomputable def stTO (d : Nat) (m : Lo) (t : Option IE) (σ : List TO) : R Bool := match t with
  | none => ret true σ
  | some t => r.T d m t σ
noncomputable def stCall (d : Nat) (f : AV) (as : List AV) (σ : List TO) : R AV := match f with
    | .val (.ref a) => if a = wireC ∨ a = 59 ∨ a = 71 ∨ a = 83 then callC σ a as else r.Fn' d a as σ
    | .val f => callB σ f as
    | _ => none
/-- a def of the text: what is tracked within is let go, unless it raises -/
noncomputable def stFn (d : Nat) (a : Addr) (as : List AV) (σ : List TO) : R AV := match d with
  | 0 => none
  | d + 1 => match FT a with
    | some ⟨np, nl, body⟩ => if as.length = np ∧ np ≤ nl then (match r.Ss d body (as.map some ++ List.replicate (nl - np) none) σ with
        | some (.nxt, _, σ') => some (.ok .none, σ'.take σ.length)
        | some (.ret v, _, σ') => if v.free then some (.ok v, σ'.take σ.length) else if a = 257 then some (.ok v, σ') else none
        | some (.exc i, _, σ') => some (.exc i, σ')
        | none => none) else none
    | none => none
noncomputable def stS (d : Nat) (s : IS) (m : Lo) (σ : List TO) : RS := match s with
    | .asg k e => stm (r.E d m e σ) m fun v σ => some (.nxt, m.set k (some v), σ)
    | .asgC k it el t => stm (r.E d m (.comp it el t) σ) m fun v σ => some (.nxt, m.set k (some v), σ)
    | .asgAt o e => match r.E d m e σ with
      | some (.ok (.int a), σ) => (match r.E d m o σ with
        | some (.ok (.wire i), σ) => (match σ[i]? with
          | some (.wire b _) => some (.nxt, m, σ.set i (.wire b a))
          | _ => none)
        | _ => none)
      | _ => none
    | .asgT ks es => stm (r.Es d m es σ) m fun vs σ => match putAll ks.reverse vs.reverse m with
      | some m => some (.nxt, m, σ)
      | none => none
    | .expr e => stm (r.E d m e σ) m fun v σ => match v with
      | .none => some (.nxt, m, σ)
      | .bool _ => some (.nxt, m, σ)
      | _ => none
    | .ret e => stm (r.E d m e σ) m fun v σ => some (.ret v, m, σ)
    | .ite c a b => stm (r.T d m c σ) m fun t σ => if t then r.Ss d a m σ else r.Ss d b m σ
    | .whil c b => match r.T d m c σ with
      | some (.ok true, σ) => (match r.Ss d b m σ with
        | some (.nxt, m, σ) => r.S d (.whil c b) m σ
        | _ => none)
      | some (.ok false, σ) => some (.nxt, m, σ)
      | _ => none
    | .forr ks it b => match r.E d m it σ with
      | some (.ok o, σ) => (match iterA K σ o with
        | some vs => r.For d ks vs b m σ
        | none => none)
      | _ => none
    | .forRange k hi b => match r.E d m hi σ with
      | some (.ok (.int h), σ) => if 0 ≤ h ∧ h ≤ 100000 then r.For d [k] ((List.range h.toNat).map fun i => AV.int (Int.ofNat i)) b m σ else none
      | _ => none
    | .raise e => match r.E d m e σ with
      | some (.ok (.loc i), σ) => (match σ[i]? with
        | some (.exc C a .fresh) => if C = 59 ∨ C = 71 ∨ C = 83 then some (.exc i, m, σ.set i (.exc C a .bare)) else none
        | _ => none)
      | _ => none
    | .tryx b hs => match r.Ss d b m σ with
      | some (.exc i, m, σ) => evHs hs i m σ
      | x => x
/-- a for loop's turns -/
noncomputable def stFor (d : Nat) (ks : List Nat) (vs : List AV) (b : List IS) (m : Lo) (σ : List TO) : RS := match vs with
  | [] => some (.nxt, m, σ)
  | v :: vs => match putT K ks v m with
    | some m => (match r.Ss d b m σ with
      | some (.nxt, m, σ) => r.For d ks vs b m σ
      | some (.exc i, m, σ) => some (.exc i, m, σ)
      | _ => none)
    | none => none
noncomputable def stSs (d : Nat) (l : List IS) (m : Lo) (σ : List TO) : RS := match l with
  | [] => some (.nxt, m, σ)
  | s :: l => match r.S d s m σ with
    | some (.nxt, m, σ) => r.Ss d l m σ
    | x => x
end
noncomputable def ev0 : Ev := ⟨fun _ _ _ _ => none, fun _ _ _ _ => none, fun _ _ _ _ _ => none, fun _ _ _ _ => none, fun _ _ _ _ => none, fun _ _ _ _ _ => none, fun _ _ _ _ => none, fun _ _ _ _ => none, fun _ _ _ _ => none, fun _ _ _ _ => none, fun _ _ _ _ _ _ => none, fun _ _ _ _ => none⟩
noncomputable def ev1 (K : Frag) (FT : Addr → Option Fn) (r : Ev) : Ev := ⟨stE K r, stT r, stAll r, stEs r, stO r, stComp r, stTO r, stCall r, stFn FT r, stS K r, stFor K r, stSs r⟩
noncomputable def ev (K : Frag) (FT : Addr → Option Fn) : Nat → Ev
  | 0 => ev0
  | n + 1 => ev1 K FT (ev K FT n)
section
variable (K : Frag) (FT : Addr → Option Fn) (n : Nat)
noncomputable def evE := (ev K FT n).E
noncomputable def evT := (ev K FT n).T
noncomputable def evAll := (ev K FT n).All
noncomputable def evEs := (ev K FT n).Es
noncomputable def evO := (ev K FT n).O
noncomputable def evComp := (ev K FT n).Comp
noncomputable def evTO := (ev K FT n).TO'
noncomputable def evCall := (ev K FT n).Call
noncomputable def evFn := (ev K FT n).Fn'
noncomputable def evS := (ev K FT n).S
noncomputable def evFor := (ev K FT n).For
noncomputable def evSs := (ev K FT n).Ss
end
section
variable {K : Frag} {FT : Addr → Option Fn} {n d : Nat} {m : Lo} {σ : List TO}
theorem evE_0 {e : IE} : evE K FT 0 d m e σ = none := rfl
theorem evT_0 {e : IE} : evT K FT 0 d m e σ = none := rfl
theorem evAll_0 {a : Bool} {es : List IE} : evAll K FT 0 d m a es σ = none := rfl
theorem evEs_0 {es : List IE} : evEs K FT 0 d m es σ = none := rfl
theorem evO_0 {e : Option IE} : evO K FT 0 d m e σ = none := rfl
theorem evComp_0 {el : IE} {t : Option IE} {vs : List AV} : evComp K FT 0 d el t vs σ = none := rfl
theorem evTO_0 {t : Option IE} : evTO K FT 0 d m t σ = none := rfl
theorem evCall_0 {f : AV} {as : List AV} : evCall K FT 0 d f as σ = none := rfl
theorem evFn_0 {a : Addr} {as : List AV} : evFn K FT 0 d a as σ = none := rfl
theorem evFn_00 {a : Addr} {as : List AV} : evFn K FT (n + 1) 0 a as σ = none := rfl
theorem evS_0 {s : IS} : evS K FT 0 d s m σ = none := rfl
theorem evFor_0 {ks : List Nat} {vs : List AV} {b : List IS} : evFor K FT 0 d ks vs b m σ = none := rfl
theorem evSs_0 {l : List IS} : evSs K FT 0 d l m σ = none := rfl
theorem evE_const {v : AV} : evE K FT (n + 1) d m (.const v) σ = ret v σ := rfl
theorem evE_var {k : Nat} : evE K FT (n + 1) d m (.var k) σ = match m[k]? with
      | some (some v) => ret v σ
      | _ => none := rfl
theorem evE_not {e : IE} : evE K FT (n + 1) d m (.not e) σ = bnd (evT K FT n d m e σ) fun b σ => ret (.bool (!b)) σ := rfl
theorem evE_and {es : List IE} : evE K FT (n + 1) d m (.and es) σ = bnd (evAll K FT n d m true es σ) fun b σ => ret (.bool b) σ := rfl
theorem evE_or {es : List IE} : evE K FT (n + 1) d m (.or es) σ = bnd (evAll K FT n d m false es σ) fun b σ => ret (.bool b) σ := rfl
theorem evE_ite {c a b : IE} : evE K FT (n + 1) d m (.ite c a b) σ = bnd (evT K FT n d m c σ) fun t σ => if t then evE K FT n d m a σ else evE K FT n d m b σ := rfl
theorem evE_bin {k : BK} {a b : IE} : evE K FT (n + 1) d m (.bin k a b) σ = bnd (evE K FT n d m a σ) fun a σ => bnd (evE K FT n d m b σ) fun b σ => opt (binA k a b) σ := rfl
theorem evE_cmp {k : CK} {a b : IE} : evE K FT (n + 1) d m (.cmp k a b) σ = bnd (evE K FT n d m a σ) fun a σ => bnd (evE K FT n d m b σ) fun b σ => opt ((cmpA K σ k a b).map .bool) σ := rfl
theorem evE_cmp2 {k₁ k₂ : CK} {a b c : IE} : evE K FT (n + 1) d m (.cmp2 k₁ k₂ a b c) σ = bnd (evE K FT n d m a σ) fun a σ => bnd (evE K FT n d m b σ) fun b σ => match cmpA K σ k₁ a b with
      | some true => bnd (evE K FT n d m c σ) fun c σ => opt ((cmpA K σ k₂ b c).map .bool) σ
      | some false => ret (.bool false) σ
      | none => none := rfl
theorem evE_call {f : IE} {as : List IE} : evE K FT (n + 1) d m (.call f as) σ = bnd (evE K FT n d m f σ) fun f σ => bnd (evEs K FT n d m as σ) fun as σ => evCall K FT n d f as σ := rfl
theorem evE_meth {k : MK} {o : IE} {as : List IE} : evE K FT (n + 1) d m (.meth k o as) σ = bnd (evE K FT n d m o σ) fun o σ₁ => match evEs K FT n d m as σ₁ with
      | some (.ok as, σ) => (match k with
        | .own _ f => if kindT σ₁ o = 4 then evFn K FT n d f (o :: as) σ else none
        | k => if kindT σ₁ o = kindT σ o then methB K σ k o as else none)
      | _ => none := rfl
theorem evE_at {o : IE} : evE K FT (n + 1) d m (.at o) σ = bnd (evE K FT n d m o σ) fun o σ => match o with
      | .wire i => match σ[i]? with
        | some (.wire _ a) => ret (.int a) σ
        | _ => none
      | _ => none := rfl
theorem evE_data {o : IE} : evE K FT (n + 1) d m (.data o) σ = bnd (evE K FT n d m o σ) fun o σ => match o with
      | .wire i => match σ[i]? with
        | some (.wire b _) => ret (.bytes b) σ
        | _ => none
      | _ => none := rfl
theorem evE_sub {o i : IE} : evE K FT (n + 1) d m (.sub o i) σ = bnd (evE K FT n d m o σ) fun o σ => bnd (evE K FT n d m i σ) fun i σ => opt (subA K σ o i) σ := rfl
theorem evE_slice {o : IE} {lo hi : Option IE} : evE K FT (n + 1) d m (.slice o lo hi) σ = bnd (evE K FT n d m o σ) fun o σ => bnd (evO K FT n d m lo σ) fun lo σ => bnd (evO K FT n d m hi σ) fun hi σ => sliceA σ o lo hi := rfl
theorem evE_tup {es : List IE} : evE K FT (n + 1) d m (.tup es) σ = bnd (evEs K FT n d m es σ) fun vs σ => if vs.length ≤ 100 then ret (.tup vs) σ else none := rfl
theorem evE_list {es : List IE} : evE K FT (n + 1) d m (.list es) σ = bnd (evEs K FT n d m es σ) fun vs σ => if AV.frees vs && vs.length ≤ 100 then mk (.list vs) σ else none := rfl
theorem evE_comp {it el : IE} {t : Option IE} : evE K FT (n + 1) d m (.comp it el t) σ = bnd (evE K FT n d m it σ) fun o σ => match iterA K σ o with
      | some vs => bnd (evComp K FT n d el t vs σ) fun vs σ => if AV.frees vs && vs.length ≤ 100000 then mk (.list vs) σ else none
      | none => none := rfl
theorem evT_s {e : IE} : evT K FT (n + 1) d m e σ = bnd (evE K FT n d m e σ) fun v σ => match v with
    | .bool b => ret b σ
    | _ => none := rfl
theorem evAll_nil {a : Bool} : evAll K FT (n + 1) d m a [] σ = ret a σ := rfl
theorem evAll_cons {a : Bool} {e : IE} {es : List IE} : evAll K FT (n + 1) d m a (e :: es) σ = bnd (evT K FT n d m e σ) fun b σ => if b = a then evAll K FT n d m a es σ else ret (!a) σ := rfl
theorem evEs_nil  : evEs K FT (n + 1) d m [] σ = ret [] σ := rfl
theorem evEs_cons {e : IE} {es : List IE} : evEs K FT (n + 1) d m (e :: es) σ = bnd (evE K FT n d m e σ) fun v σ => bnd (evEs K FT n d m es σ) fun vs σ => ret (v :: vs) σ := rfl
theorem evO_none  : evO K FT (n + 1) d m none σ = ret none σ := rfl
theorem evO_some {e : IE} : evO K FT (n + 1) d m (some e) σ = bnd (evE K FT n d m e σ) fun v σ => ret (some v) σ := rfl
theorem evComp_nil {el : IE} {t : Option IE} : evComp K FT (n + 1) d el t [] σ = ret [] σ := rfl
theorem evComp_cons {el : IE} {t : Option IE} {v : AV} {vs : List AV} : evComp K FT (n + 1) d el t (v :: vs) σ = match evTO K FT n d [some v] t σ with
    | some (.ok true, σ) => (match evE K FT n d [some v] el σ with
      | some (.ok x, σ) => bnd (evComp K FT n d el t vs σ) fun xs σ => ret (x :: xs) σ
      | _ => none)
    | some (.ok false, σ) => evComp K FT n d el t vs σ
    | _ => none := rfl
theorem evTO_none  : evTO K FT (n + 1) d m none σ = ret true σ := rfl
theorem evTO_some {t : IE} : evTO K FT (n + 1) d m (some t) σ = evT K FT n d m t σ := rfl
theorem evCall_s {f : AV} {as : List AV} : evCall K FT (n + 1) d f as σ = match f with
    | .val (.ref a) => if a = wireC ∨ a = 59 ∨ a = 71 ∨ a = 83 then callC σ a as else evFn K FT n d a as σ
    | .val f => callB σ f as
    | _ => none := rfl
theorem evCall_b {b : String} {as : List AV} : evCall K FT (n + 1) d (.val (.builtin b)) as σ = callB σ (.builtin b) as := rfl
theorem evCall_t {b : String} {as : List AV} : evCall K FT (n + 1) d (.val (.type b)) as σ = callB σ (.type b) as := rfl
theorem evCall_r {a : Addr} {as : List AV} : evCall K FT (n + 1) d (.val (.ref a)) as σ = if a = wireC ∨ a = 59 ∨ a = 71 ∨ a = 83 then callC σ a as else evFn K FT n d a as σ := rfl
theorem evFn_s {a : Addr} {as : List AV} : evFn K FT (n + 1) (d + 1) a as σ = match FT a with
    | some ⟨np, nl, body⟩ => if as.length = np ∧ np ≤ nl then (match evSs K FT n d body (as.map some ++ List.replicate (nl - np) none) σ with
        | some (.nxt, _, σ') => some (.ok .none, σ'.take σ.length)
        | some (.ret v, _, σ') => if v.free then some (.ok v, σ'.take σ.length) else if a = 257 then some (.ok v, σ') else none
        | some (.exc i, _, σ') => some (.exc i, σ')
        | none => none) else none
    | none => none := rfl
theorem evS_asg {k : Nat} {e : IE} : evS K FT (n + 1) d (.asg k e) m σ = stm (evE K FT n d m e σ) m fun v σ => some (.nxt, m.set k (some v), σ) := rfl
theorem evS_asgC {k : Nat} {it el : IE} {t : Option IE} : evS K FT (n + 1) d (.asgC k it el t) m σ = stm (evE K FT n d m (.comp it el t) σ) m fun v σ => some (.nxt, m.set k (some v), σ) := rfl
theorem evS_asgAt {o e : IE} : evS K FT (n + 1) d (.asgAt o e) m σ = match evE K FT n d m e σ with
      | some (.ok (.int a), σ) => (match evE K FT n d m o σ with
        | some (.ok (.wire i), σ) => (match σ[i]? with
          | some (.wire b _) => some (.nxt, m, σ.set i (.wire b a))
          | _ => none)
        | _ => none)
      | _ => none := rfl
theorem evS_asgT {ks : List Nat} {es : List IE} : evS K FT (n + 1) d (.asgT ks es) m σ = stm (evEs K FT n d m es σ) m fun vs σ => match putAll ks.reverse vs.reverse m with
      | some m => some (.nxt, m, σ)
      | none => none := rfl
theorem evS_expr {e : IE} : evS K FT (n + 1) d (.expr e) m σ = stm (evE K FT n d m e σ) m fun v σ => match v with
      | .none => some (.nxt, m, σ)
      | .bool _ => some (.nxt, m, σ)
      | _ => none := rfl
theorem evS_ret {e : IE} : evS K FT (n + 1) d (.ret e) m σ = stm (evE K FT n d m e σ) m fun v σ => some (.ret v, m, σ) := rfl
theorem evS_ite {c : IE} {a b : List IS} : evS K FT (n + 1) d (.ite c a b) m σ = stm (evT K FT n d m c σ) m fun t σ => if t then evSs K FT n d a m σ else evSs K FT n d b m σ := rfl
theorem evS_whil {c : IE} {b : List IS} : evS K FT (n + 1) d (.whil c b) m σ = match evT K FT n d m c σ with
      | some (.ok true, σ) => (match evSs K FT n d b m σ with
        | some (.nxt, m, σ) => evS K FT n d (.whil c b) m σ
        | _ => none)
      | some (.ok false, σ) => some (.nxt, m, σ)
      | _ => none := rfl
theorem evS_for {ks : List Nat} {it : IE} {b : List IS} : evS K FT (n + 1) d (.forr ks it b) m σ = match evE K FT n d m it σ with
      | some (.ok o, σ) => (match iterA K σ o with
        | some vs => evFor K FT n d ks vs b m σ
        | none => none)
      | _ => none := rfl
theorem evS_range {k : Nat} {hi : IE} {b : List IS} : evS K FT (n + 1) d (.forRange k hi b) m σ = match evE K FT n d m hi σ with
      | some (.ok (.int h), σ) => if 0 ≤ h ∧ h ≤ 100000 then evFor K FT n d [k] ((List.range h.toNat).map fun i => AV.int (Int.ofNat i)) b m σ else none
      | _ => none := rfl
theorem evS_raise {e : IE} : evS K FT (n + 1) d (.raise e) m σ = match evE K FT n d m e σ with
      | some (.ok (.loc i), σ) => (match σ[i]? with
        | some (.exc C a .fresh) => if C = 59 ∨ C = 71 ∨ C = 83 then some (.exc i, m, σ.set i (.exc C a .bare)) else none
        | _ => none)
      | _ => none := rfl
theorem evS_try {b : List IS} {hs : List (Addr × Option Nat × HS)} : evS K FT (n + 1) d (.tryx b hs) m σ = match evSs K FT n d b m σ with
      | some (.exc i, m, σ) => evHs hs i m σ
      | r => r := rfl
theorem evFor_nil {ks : List Nat} {b : List IS} : evFor K FT (n + 1) d ks [] b m σ = some (.nxt, m, σ) := rfl
theorem evFor_cons {ks : List Nat} {v : AV} {vs : List AV} {b : List IS} : evFor K FT (n + 1) d ks (v :: vs) b m σ = match putT K ks v m with
    | some m => (match evSs K FT n d b m σ with
      | some (.nxt, m, σ) => evFor K FT n d ks vs b m σ
      | some (.exc i, m, σ) => some (.exc i, m, σ)
      | _ => none)
    | none => none := rfl
theorem evSs_nil  : evSs K FT (n + 1) d [] m σ = some (.nxt, m, σ) := rfl
theorem evSs_cons {s : IS} {l : List IS} : evSs K FT (n + 1) d (s :: l) m σ = match evS K FT n d s m σ with
    | some (.nxt, m, σ) => evSs K FT n d l m σ
    | x => x := rfl
end
end Mine
end

section
open PySem PySem.W PyProof.Rows
open PySem.Sem (wp)
set_option maxRecDepth 100000
namespace Mine

/-- the codes that hold a buffer while they stand on the stack -/
noncomputable def holders : List String := Builtin.Bytes.decodersThatHold ++ ["bytearray.__contains__", "bytearray.__mod__", "bytearray.__rmod__", "_struct.pack_into.held", "bytearray.find.held"]
noncomputable def noHold : Code → Bool
  | .builtin id _ => !holders.contains id
  | _ => true
theorem noHold_b (id : String) (a : Args) : noHold (.builtin id a) = !holders.contains id := rfl
/-- no holder below -/
noncomputable def FineB (Γ : Ctx) : Prop := ∀ x ∈ Γ.below, noHold x.1 = true
noncomputable def Fine (Γ : Ctx) : Prop := noHold Γ.code = true ∧ FineB Γ

theorem Fine.enter {Γ : Ctx} (h : Fine Γ) (c : Code) (hd : Option Value) (p : Pos) : FineB (Γ.enter c hd p) := by
  intro x hx
  simp only [Ctx.enter] at hx
  rcases List.mem_cons.mp hx with rfl | hx
  · exact h.1
  · exact h.2 x hx

/-- as wpAny, with no holder around -/
noncomputable def wpS {α : Type} (M : Model) (A : Around) (t : Sem α) (Q : α → Shared → Prop) (E : Value → Shared → Prop) (s : Shared) : Prop :=
  ∀ Γ p, Γ.In A → Fine Γ → wp M Γ t (fun a _ s' => Q a s') (fun e _ s' => E e s') p s
noncomputable def codeS (M : Model) (A : Around) (c : Code) (R : Result → Shared → Prop) (s : Shared) : Prop :=
  ∀ Γ p, Γ.code = c → Γ.Below A → FineB Γ → wpCode M Γ R p s

section
variable {α β : Type} {M : Model} {A : Around} {Q : α → Shared → Prop} {E : Value → Shared → Prop} {R : Result → Shared → Prop} {s : Shared}

theorem wpS.of {t : Sem α} (h : wpAny M A t Q E s) : wpS M A t Q E s := fun Γ p hΓ _ => h Γ p hΓ
theorem codeS.of {c : Code} (h : codeAny M A c R s) : codeS M A c R s := fun Γ p hc hΓ _ => h Γ p hc hΓ
theorem wpS_pure {a : α} (h : Q a s) : wpS M A (pure a) Q E s := fun _ _ _ _ => h
theorem wpS_mono {t : Sem α} {Q' : α → Shared → Prop} {E' : Value → Shared → Prop} (h : wpS M A t Q E s) (hQ : ∀ a s, Q a s → Q' a s) (hE : ∀ e s, E e s → E' e s) : wpS M A t Q' E' s :=
  fun Γ p hΓ hF => Sem.wp_mono M Γ t (fun a _ s => hQ a s) (fun e _ s => hE e s) p s (h Γ p hΓ hF)
theorem wpS_q {t : Sem α} {Q' : α → Shared → Prop} (h : wpS M A t Q E s) (hQ : ∀ a s, Q a s → Q' a s) : wpS M A t Q' E s := wpS_mono h hQ fun _ _ x => x
theorem wpS_bind {m : Sem α} {f : α → Sem β} {Q : β → Shared → Prop} (h : wpS M A m (fun a s' => wpS M A (f a) Q E s') E s) : wpS M A (m >>= f) Q E s := fun Γ p hΓ hF => by
  rw [Sem.wp_bind']
  exact Sem.wp_mono M Γ m (fun a p' s' h' => h' Γ p' hΓ hF) (fun _ _ _ h' => h') p s (h Γ p hΓ hF)
/-- bind behind a wpAny -/
theorem wpS_then {m : Sem α} {f : α → Sem β} {Q : β → Shared → Prop} (h : wpAny M A m (fun a s' => wpS M A (f a) Q E s') E s) : wpS M A (m >>= f) Q E s := wpS_bind (wpS.of h)
theorem wpS_map {m : Sem α} {f : α → β} {Q : β → Shared → Prop} (h : wpS M A m (fun a s' => Q (f a) s') E s) : wpS M A (f <$> m) Q E s := fun Γ p hΓ hF => by rw [Sem.wp_map]; exact h Γ p hΓ hF
theorem wpS_tryCatch {m : Sem α} {k : Value → Sem α} (h : wpS M A m Q (fun e s' => wpS M A (k e) Q E s') s) : wpS M A (tryCatch m k) Q E s := fun Γ p hΓ hF => by
  rw [Sem.wp_tryCatch']
  exact Sem.wp_mono M Γ m (fun _ _ _ h' => h') (fun e p' s' h' => h' Γ p' hΓ hF) p s (h Γ p hΓ hF)
theorem wpS_onRaise {m : Sem α} {k : Value → Sem Unit} (h : wpS M A m Q (fun e s' => wpS M A (k e) (fun _ s'' => E e s'') E s') s) : wpS M A (m.onRaise k) Q E s := fun Γ p hΓ hF => by
  rw [Sem.wp_onRaise]
  exact Sem.wp_mono M Γ m (fun _ _ _ h' => h') (fun e p' s' h' => h' Γ p' hΓ hF) p s (h Γ p hΓ hF)
theorem wpS_attempt {m : Sem α} {Q : Except Value α → Shared → Prop} (h : wpS M A m (fun a => Q (.ok a)) (fun e => Q (.error e)) s) : wpS M A m.attempt Q E s := fun Γ p hΓ hF => by rw [Sem.wp_attempt]; exact h Γ p hΓ hF
theorem wpS_holding {vs : List Value} {m : Sem α} (h : wpS M A m Q E s) : wpS M A (holding vs m) Q E s := fun Γ p hΓ hF => by rw [Sem.wp_holding]; exact h Γ p hΓ hF
theorem wpS_keep {vs : List Value} {m : Sem α} (h : wpS M A m Q E s) : wpS M A (m.keep vs) Q E s := fun Γ p hΓ hF => by rw [Sem.wp_keep]; exact h Γ p hΓ hF
theorem wpS_standAt {pos : Pos} {Q : Unit → Shared → Prop} (h : Q () s) : wpS M A (standAt pos) Q E s := fun _ _ _ _ => h
theorem wpS_point {Q : Unit → Shared → Prop} (h : Q () s) : wpS M A point Q E s := fun _ _ _ _ => h
theorem wpS_stand {pos : Pos} {f : Unit → Sem β} {Q : β → Shared → Prop} (h : wpS M A (f ()) Q E s) : wpS M A (standAt pos >>= f) Q E s := wpS_bind (wpS_standAt h)
theorem wpS_operate {vs : List Value} {m : Sem Value} {Q : Value → Shared → Prop} (h : wpS M A m Q E s) : wpS M A (operate vs m) Q E s := fun Γ p hΓ hF => by rw [Sem.wp_operate]; exact h Γ p hΓ hF
theorem wpS_load {a : Addr} {o : Obj} {Q : Obj → Shared → Prop} (ho : s.heap.get? a = some o) (h : Q o s) : wpS M A (load a) Q E s := wpS.of (wpAny_load ho h)
theorem wpS_of_in1 {t : Sem α} (h : wpS M A.in1 t Q E s) : wpS M A t Q E s := fun Γ p hΓ hF => h Γ p ⟨hΓ.1, hΓ.2.1, hΓ.2.2.1, hΓ.2.2.2.1, Nat.le_succ_of_le hΓ.2.2.2.2⟩ hF

theorem codeS_mono {c : Code} {R' : Result → Shared → Prop} (h : codeS M A c R s) (hR : ∀ r s, R r s → R' r s) : codeS M A c R' s := fun Γ p hc hΓ hF => wpCode_mono hR (h Γ p hc hΓ hF)
theorem wpS_run {c : Code} {h : Option Value} {Q : Flow → Shared → Prop} (hc : codeS M (A.mark h) c (fun r s' => match r with | .ok f => Q f s' | .error e => E e s') s) (hnb : h ≠ some byPass := by intro x; cases x) :
    wpS M A (run c h) Q E s := fun Γ p hΓ hF => by rw [Sem.wp_run]; exact hc _ p rfl (hΓ.enter c h p hnb) (hF.enter c h p)
theorem wpS_runValue {c : Code} {Q : Value → Shared → Prop} (hc : codeS M A c (fun r s' => match r with | .ok (.ret v) => Q v s' | .ok _ => False | .error e => E e s') s) :
    wpS M A (runValue c) Q E s := fun Γ p hΓ hF => by rw [Sem.wp_runValue]; exact hc _ p rfl (hΓ.enter c none p (by intro x; cases x)) (hF.enter c none p)
theorem wpS_call {f : Value} {pos : List Value} {kw : List (Str × Value)} {Q : Value → Shared → Prop} (hc : codeS M A (.call f ⟨pos, kw⟩) (fun r s' => match r with | .ok (.ret v) => Q v s' | .ok _ => False | .error e => E e s') s) :
    wpS M A (call f pos kw) Q E s := wpS_runValue hc
theorem codeS_of_tree {c : Code} (hn : noHold c = true) (h : wpS M (A.under c) (M.den c) (fun fin s' => match fin with | .done f => R (.ok f) s' | .again c' => c'.quiet = true ∧ codeS M A c' R s') (fun e s' => R (.error e) s') s) :
    codeS M A c R s := fun Γ p hc hΓ hF => by
  rw [wpCode_iff_wp, hc]
  refine Sem.wp_mono M Γ _ (fun fin p' s' h' => ?_) (fun _ _ _ h' => h') p s (h Γ p (hc ▸ hΓ.in) ⟨hc ▸ hn, hF⟩)
  cases fin with
  | done f => exact h'
  | again c' => exact ⟨h'.1, h'.2 (Γ.goto c') p' rfl (hΓ.goto c') hF⟩
theorem wpS_runOwn {c : Code} {h : Option Value} {env : Env} {Q : Flow → Shared → Prop} (hc : codeS M (A.mark h) c (fun r s' => match r with | .ok f => Q f s' | .error e => cameBackBy M A env E e s') s) (hnb : h ≠ some byPass := by intro x; cases x) :
    wpS M A (runOwn c env h) Q E s := by
  unfold runOwn
  exact wpS_onRaise (wpS_run (codeS_mono hc fun r s' x => by cases r with | ok f => exact x | error e => exact wpS.of x) hnb)

/-- no holder: nothing is held -/
theorem exported_no {v : Value} {Q : Bool → Shared → Prop} (h : Q false s) : wpS M A (Builtin.Bytes.exported v) Q E s := fun Γ p _ hF => by
  unfold Builtin.Bytes.exported
  rw [Sem.wp_bind']
  show Q (List.any ((Γ.code, p) :: Γ.below) _) s
  have key : ∀ x : Code × Pos, noHold x.1 = true → (match x with
    | (.builtin "bytearray.__contains__" ⟨v' :: _, _⟩, _) | (.builtin "bytearray.__mod__" ⟨v' :: _, _⟩, _)
    | (.builtin "bytearray.__rmod__" ⟨_ :: v' :: _, _⟩, _) | (.builtin "_struct.pack_into.held" ⟨v' :: _, _⟩, _) => Builtin.Bytes.sameRef v' v
    | (.builtin "bytearray.find.held" ⟨_ :: _ :: held, _⟩, _) => held.any (Builtin.Bytes.sameRef v)
    | (.builtin id ⟨v' :: _, _⟩, _) => Builtin.Bytes.sameRef v' v && Builtin.Bytes.decodersThatHold.contains id
    | _ => false) = false := by
    rintro ⟨c, p⟩ hx
    split
    iterate 5 (rename_i e; cases e; rw [noHold_b] at hx; exact absurd hx (by decide +kernel))
    · rename_i e
      cases e
      rw [noHold_b, holders, List.contains_append, Bool.not_or, Bool.and_eq_true, Bool.not_eq_true'] at hx
      rw [hx.1, Bool.and_false]
    · rfl
  rw [List.any_eq_false.mpr fun x hx => by
    have hn : noHold x.1 = true := by
      rcases List.mem_cons.mp hx with rfl | hx
      · exact hF.1
      · exact hF.2 x hx
    exact Bool.eq_false_iff.mp (key x hn)]
  exact h
end
end Mine
end

section
open PySem PySem.W PySem.Calls PyProof.Rows
set_option maxRecDepth 100000
namespace Mine

theorem fine_caller : Fine ⟨.builtin "claim.caller" {}, none, none, [], none⟩ := ⟨by decide +kernel, fun _ h => nomatch h⟩

/-- the caller's thread comes to its end -/
theorem ends_S {prog : Program} {w : World} {t : Sem Fin} {s : Shared} {R : Result → Shared → Prop} (z : s.asleep)
    (h : wpS (model prog w) callerA t (fun fin s' => ∃ f, fin = .done f ∧ R (.ok f) s' ∧ AllBare s'.gens) (fun e s' => R (.error e) s' ∧ AllBare s'.gens) s) :
    ∃ n r s' s'', runN (denote table) prog w n s ⟨t, .builtin "claim.caller" {}, default, []⟩ = .halted (outcomeOf r) s' ∧
      schedN (denote table) prog w n (.single s ⟨t, .builtin "claim.caller" {}, default, []⟩) = .halted (outcomeOf r) s' ∧ s'.forget = s''.forget ∧ R r s'' := by
  have hw := h _ default caller_in fine_caller
  have := wp_halts_full (M := model prog w) (R := R) z (Sem.wp_mono _ _ _ (fun fin p' s' q => by
    obtain ⟨f, rfl, a, b⟩ := q
    exact ⟨a, leftWithCleanup_false_of_bare b⟩) (fun e p' s' q => ⟨q.1, leftWithCleanup_false_of_bare q.2⟩) _ _ hw)
  obtain ⟨n, r, s1, s2, a, b, c, d⟩ := this
  exact ⟨n, r, s2, s1, b, a, c, d⟩

noncomputable abbrev WalkS (q : Program) (loose : List Str) (XP : (Str → Option Value) → Heap → Prop) (YP : World → Heap → Prop) (r : RowW) (d : DefRec) (kwd : List (Str × Expr)) : Prop :=
  ∀ (w : World) (s₀ s₁ : Shared) (mg mb : Str → Option Value), Ground q loose r.records XP w s₀ mg mb s₁.heap → YP w s₁.heap → ∀ (a : Addr) (o : Obj) (pm cd doc dV kV : Value), s₁.heap.get? a = some o →
    o.data = .func { docDef d.name d.params d.body d.scope pm cd doc with defaults := dV, kwdefaults := kV } → s₁.heap.CodeRec cd d.name → Dflts mg s₁.heap d.params kwd dV kV → mg d.name = some (.ref a) → s₁.gens = #[] →
    ∀ (args : List WData) (vals : List Value) (as : List Addr), r.claim.pre args = true → WData.layableAll args = true → ReadsAllW r.records (classAt s₀.heap) s₁.heap vals args as → WellAll w.params s₁.heap vals args → (∀ a ∈ as, (a == sysModules) = false) →
      wpS (model r.prog w) callerA (PySem.call (.ref a) vals) (fun v s' => GoodWG r.claim (classAt s₀.heap) (ExcName.means s₀.heap) args s₁ (.ok (.ret v)) s')
        (fun e s' => GoodWG r.claim (classAt s₀.heap) (ExcName.means s₀.heap) args s₁ (.error e) s') s₁

/-- the head, for a walk among stacks that hold no buffer -/
theorem PySem.W.holds_open {r : OpenRow} {q : Program} {loose : List Str} {Xt : Shared → Bool} {XP : (Str → Option Value) → Heap → Prop} {α : Type} {Yf : Shared → α} {Ya : World → α} {YP : World → Heap → Prop} {d : DefRec} {kwd : List (Str × Expr)} {N : Nat}
    (left : LeftO r.prog q loose Xt Yf Ya N) (hY : ∀ w s, Yf s = Ya w → YP w s.heap) (hYk : ∀ w h h', YP w h → (∀ b o, h.get? b = some o → h'.get? b = some o) → YP w h')
    (hX : ∀ s, Xt s = true → XP (s.heap.nsMap mainGlobals) s.heap) (hXk : ∀ mg h h', XP mg h → (∀ b o, h.get? b = some o → h'.get? b = some o) → XP mg h')
    (hdef : defOf q r.name = some (d, kwd)) (hp : r.prog.theDef r.name = some (d.params, d.body, d.scope)) (hk : kwWritten? d.params.kwonlyargs d.params.kw_defaults = some kwd) (hRf : ∀ s, Xt s = true → RecFacts r.records s.heap) (hwr : (!r.writes || r.records.isEmpty) = true)
    (k1 : r.wellSaid = true) (ok : (chainsOk q && opensWell r.prog && (frees r.toRowW && r.within.isEmpty)) = true) (hb : r.prog.bare) (hw : r.toRowW.promised)
    (call : WalkS q loose XP YP r.toRowW d kwd) : r.Holds := by
  rw [Bool.and_eq_true, Bool.and_eq_true, Bool.and_eq_true] at ok
  obtain ⟨⟨hch, o1⟩, k5, k6⟩ := ok
  obtain ⟨hsame, hu, ha, hap, hm⟩ := frees_parts k5
  refine ⟨k1, hw, ⟨hb, o1, by show r.makers.map _ = []; rw [hm]; rfl⟩, hw.witness, fun w => ?_⟩
  have B := left.behind (XP := fun mg h => XP mg h ∧ RecFacts r.records h) (fun s hs => ⟨hX s hs, hRf s hs⟩) hch w
  refine ⟨B.1, fun s' hs' => ?_⟩
  obtain ⟨s₀, hf, hg0, s, hT, hz, hgens, hg, G, y⟩ := B.2 s' hs'
  have G0 : Ground q loose [] XP w s (s.heap.nsMap mainGlobals) (s.heap.nsMap builtinsNs) s.heap := { G with X := G.X.1 }
  have RF := G.X.2
  have G1 : Ground q loose r.records XP w s _ _ s.heap := RF.ground G0
  refine ⟨s₀, hf, hg0, s, hT, fun n hn => ?_, RF.1, RF.2.1, ?_⟩
  · obtain rfl : n = r.name := by split at hn <;> simp_all
    exact pinned_of_view hg G0 hdef hp hk
  have hgens : s.gens = #[] := Array.eq_empty_of_size_eq_zero (beq_iff_eq.mp hgens)
  intro args hpre hlay ord hord
  obtain ⟨⟨vs, s₁⟩, hlaid⟩ := Option.isSome_iff_exists.mp (layAllW_isSome (P := w.params) (ord := ord) G1.has args r.args s (pre_splitW hpre).1)
  have keeps := layAllW_keeps _ _ _ hlaid
  have hal := layAllW_rest _ _ _ hlaid
  obtain ⟨as, hrd, hin, hold⟩ := reads_layAllW hord _ _ _ hlaid hlay s₁.heap fun _ _ e => e
  have L : Laid r.records w s s₁ args vs as := ⟨⟨ord, hord, hlaid⟩, hrd, hin, hold, keeps, hal.1.trans hgens, hal.2.2.1⟩
  have G₁ := G1.keeps hXk keeps
  obtain ⟨a, o, pm, cd, doc, dV, kV, h1, h2, h3, h4, h5⟩ := G₁.fn hdef
  have walk := call w s s₁ _ _ G₁ (hYk _ _ _ (hY w s y) keeps) a o pm cd doc dV kV h2 h3 h4 h5 (defOf_name hdef ▸ h1) L.gens args vs as hpre hlay L.reads L.well (L.low G1.low)
  have hi := ident_freeW hu ha hap
  have hwi : r.claim.within = [] := List.isEmpty_iff.mp k6
  let kept : Heap → Prop := fun h' => r.writes = true → namesKept r.prog r.keeps s.heap h' ∧ ∀ x ∈ r.records, ∀ a, classAt s.heap x.1 = some a → recordClass h' a x.1 (x.2.map (·.1)) = true
  have good : ∀ res s', GoodWG r.claim (classAt s.heap) (ExcName.means s.heap) args s₁ res s' → (r.claim.Ends s args vs s₁ res s' ∧ s'.os = s.os ∧ kept s'.heap) ∧ AllBare s'.gens := fun res s' g => by
    have z := g.laid (c := r.claim) hsame hwi hi L
    exact ⟨⟨z.1, z.2.1, fun q => ⟨namesKept_of hT hg r.keeps keeps g.2.1.old, noTable hwr q⟩⟩, z.2.2⟩
  obtain ⟨k, res, s', s'', hrun, hsched, hfo, hcase, hos, hkp⟩ := ends_S (prog := r.prog) (w := w) (s := s₁)
    (t := do match ← nsGet mainNs r.name with
      | some f => do PySem.ret (← PySem.call f vs)
      | none => unsupported "claim.caller:no-such-global")
    (R := fun res s' => r.claim.Ends s args vs s₁ res s' ∧ s'.os = s.os ∧ kept s'.heap) (Shared.asleep_of_life hal.2.2.2 hz)
    (wpS_then (wpAny_nsGet G₁.T.g (by
      rw [h1]
      exact wpS_bind (wpS_mono walk (fun v s' g => wpS_pure ⟨_, rfl, good _ _ g⟩) fun e s' g => good _ _ g))))
  obtain ⟨eh, _, _, eo, _⟩ := Shared.forget_eq hfo
  refine ⟨vs, s₁, hlaid, k, _, s', hsched, ?_, fun _ i x hx => ?_, ?_, ?_, Shared.rest_eq (eo.trans hos)⟩
  · rcases hcase.congr eh with ⟨v, rfl, d1, d2, d3, d4, d5⟩ | ⟨e, ob, cls, rfl, d1, d2, d3, d4, d5⟩
    · exact .inl ⟨v, rfl, d1, d2, d3, fun b o y _ => d4 b o y, d5⟩
    · exact .inr ⟨e, ob, cls, rfl, d1, d2, d3, d4, fun b o y _ => d5 b o y⟩
  · rw [hgens] at hx; simp at hx
  · rw [eh]; exact hkp
  · exact congrArg Life.seen ((runN_life _ _ _ hrun).trans hal.2.2.2)
end Mine
end

section
open PySem PySem.W PyProof.Rows
set_option maxRecDepth 100000
set_option maxHeartbeats 8000000
namespace Mine
section
-- the written heap alone, without the head: k_head lays it, and the head's own step is put off
local macro_rules | `(tactic| o_head $_) => `(tactic| exact $(Lean.mkIdent `h))
set_option Elab.async false in
theorem grab (h : PySem.Challenge.rw_or0063_01.row.Holds) : PySem.Challenge.rw_or0063_01.row.Holds := by
  w_on; k_head
end
end Mine
end

section
open PySem PySem.W PyProof.Rows
set_option maxRecDepth 100000
namespace Mine

structure Cx where
  A : Around
  env : Env
  L : Addr
  Lf : Addr
  locs : List Str
  sc : Scope

structure CxOk (c : Cx) : Prop where
  hk : c.env.scope.kind = .function
  names : c.env.scope.names = c.sc.names
  loc : c.env.locals = c.L
  glob : c.env.globals = mainGlobals
  blt : c.env.builtins = builtinsNs
  frame : c.env.frame = some c.Lf
  nd : c.locs.Nodup
  hh : c.A.handled = none

/-- stands whatever the slots -/
noncomputable def Slt (P : Obj → Prop) : Prop := (∀ o, P o → ∀ vs, o.data ≠ .fields vs) ∧ ∀ o sl, P o → P { o with slots := sl }
theorem Slt.frm (m : Str → Option Value) : Slt (frmP m) := ⟨fun o ⟨es, ep, hd, _⟩ vs q => (by rw [hd] at q; cases q), fun o sl ⟨es, ep, hd, r⟩ => ⟨es, ep, hd, r⟩⟩
/-- the frames around stand among what stands beside -/
noncomputable def FrIn (fr : List Fm) (envs : List Env) : Prop := ∀ env ∈ envs, env.scope.kind ≠ .module ∧ ∃ L P, env.frame = some L ∧ (L, P) ∈ fr ∧ Slt P
theorem FrIn.head {L : Addr} {P P' : Obj → Prop} {fr : List Fm} {envs : List Env} (x : FrIn ((L, P) :: fr) envs) (h : Slt P') : FrIn ((L, P') :: fr) envs := fun env he => by
  obtain ⟨hk, L₁, P₁, hf, hm, hs⟩ := x env he
  refine ⟨hk, ?_⟩
  rcases List.mem_cons.mp hm with q | hm
  · cases q; exact ⟨L, P', hf, .head _, h⟩
  · exact ⟨L₁, P₁, hf, .tail _ hm, hs⟩
theorem FrIn.more {p : Fm} {fr : List Fm} {envs : List Env} (x : FrIn fr envs) : FrIn (p :: fr) envs := fun env he =>
  let ⟨hk, L, P, hf, hm, hs⟩ := x env he; ⟨hk, L, P, hf, .tail _ hm, hs⟩
theorem FrIn.second {p q : Fm} {fr : List Fm} {envs : List Env} (x : FrIn (p :: fr) envs) : FrIn (p :: q :: fr) envs := fun env he => by
  obtain ⟨hk, L, P, hf, hm, hs⟩ := x env he
  refine ⟨hk, L, P, hf, ?_, hs⟩
  rcases List.mem_cons.mp hm with q | hm
  · exact q ▸ .head _
  · exact .tail _ (.tail _ hm)

noncomputable def Room (A : Around) (d : Nat) : Prop := A.depth + 3 * d + 3 < recursionLimit ∧ A.units + 20 * d + 100 < cLine

/-- a value or None -/
noncomputable def OptR (g : Gh) : Option AV → Value → Prop
  | none, v => v = .none
  | some a, v => VR g a v
theorem OptR.mono {g g' : Gh} (k : g.le g') : ∀ {a : Option AV} {v : Value}, OptR g a v → OptR g' a v
  | none, _, h => h
  | some _, _, h => VR.mono k h

noncomputable def MR (g : Gh) (locs : List Str) (m : Lo) (mm : Str → Option Value) : Prop := ∀ (i : Nat) (x : Str) (v : AV), locs[i]? = some x → m[i]? = some (some v) → ∃ u, mm x = some u ∧ VR g v u
theorem MR.mono {g g' : Gh} {locs : List Str} {m : Lo} {mm : Str → Option Value} (x : MR g locs m mm) (k : g.le g') : MR g' locs m mm := fun i x' v h h' => let ⟨u, hu, r⟩ := x i x' v h h'; ⟨u, hu, r.mono k⟩

/-- the exception has a traceback whose flight is fl -/
noncomputable def ExTr (g : Gh) (fr : List Fm) (h : Heap) (e : Addr) (fl : Value) : Prop := ∃ oe vs T oT ts, h.get? e = some oe ∧ oe.data = .fields vs ∧ vs.size = 6 ∧ vs[1]? = some (.ref T) ∧ g.frz T = none ∧ ¬ g.mut fr T ∧ h.get? T = some oT ∧ oT.data = .fields ts ∧ ts[3]? = some fl
/-- the exception is new: no traceback -/
noncomputable def ExNew (h : Heap) (e : Addr) : Prop := ∃ oe vs, h.get? e = some oe ∧ oe.data = .fields vs ∧ vs.size = 6 ∧ vs[1]? = some .none
noncomputable def ExSt (g : Gh) (fr : List Fm) (Lf : Addr) (h : Heap) (e : Addr) : Prop := ExNew h e ∨ ExTr g fr h e .none ∨ ExTr g fr h e (rawInt Lf)

structure St (g₀ : Heap) (c : Cx) (fr : List Fm) (d : Nat) (m : Lo) (σ : List TO) (g : Gh) (mm : Str → Option Value) (h : Heap) : Prop where
  I : Inv g₀ g ((c.L, frmP mm) :: fr) σ h
  M : MR g c.locs m mm
  F : ∃ envs, c.A.frames = some envs ∧ FrIn ((c.L, frmP mm) :: fr) envs
  R : Room c.A d
theorem St.next {g₀ : Heap} {c : Cx} {fr : List Fm} {d : Nat} {m : Lo} {σ σ' : List TO} {g g' : Gh} {mm : Str → Option Value} {h h' : Heap} (x : St g₀ c fr d m σ g mm h) (k : g.le g') (I : Inv g₀ g' ((c.L, frmP mm) :: fr) σ' h') : St g₀ c fr d m σ' g' mm h' := ⟨I, x.M.mono k, x.F, x.R⟩
theorem St.fr {g₀ : Heap} {c : Cx} {fr : List Fm} {d : Nat} {m : Lo} {σ : List TO} {g : Gh} {mm : Str → Option Value} {h : Heap} (x : St g₀ c fr d m σ g mm h) : Fr g₀ c.L h mm where
  ns := frmP.ns (x.I.fs _ (.head _)).1
  keep := fun b o e => x.I.fz b o (x.I.base b o e)
  above := (x.I.fs _ (.head _)).2.2

/-- what is wanted behind a step -/
structure Fin {α β : Type} (rel : Gh → α → β → Prop) (g₀ : Heap) (c : Cx) (fr : List Fm) (mm : Str → Option Value) (r : Ex α) (σ' : List TO) (g : Gh) (s : Shared) (Q : β → Shared → Prop) (E : Value → Shared → Prop) : Prop where
  ok : ∀ a, r = .ok a → ∀ v g' h' tk, g.le g' → Inv g₀ g' ((c.L, frmP mm) :: fr) σ' h' → rel g' a v → Q v { s with heap := h', toks := tk }
  ex : ∀ i, r = .exc i → ∀ e g' h' tk, g.le g' → Inv g₀ g' ((c.L, frmP mm) :: fr) σ' h' → g'.loc i = some e → Rsd σ' i → ExTr g' ((c.L, frmP mm) :: fr) h' e .none → E (.ref e) { s with heap := h', toks := tk }
theorem Fin.later {α β : Type} {rel : Gh → α → β → Prop} {g₀ : Heap} {c : Cx} {fr : List Fm} {mm : Str → Option Value} {r : Ex α} {σ' : List TO} {g g₁ : Gh} {s : Shared} {Q : β → Shared → Prop} {E : Value → Shared → Prop} {h₁ : Heap} {tk₁ : Nat}
    (x : Fin rel g₀ c fr mm r σ' g s Q E) (k : g.le g₁) : Fin rel g₀ c fr mm r σ' g₁ { s with heap := h₁, toks := tk₁ } Q E :=
  ⟨fun a e v g' h' tk l I q => x.ok a e v g' h' tk (k.trans l) I q, fun i e a g' h' tk l I q z t => x.ex i e a g' h' tk (k.trans l) I q z t⟩

/-- the tree t reckons what x says -/
noncomputable def Sub {α β : Type} (prog : Program) (w : World) (rel : Gh → α → β → Prop) (g₀ : Heap) (c : Cx) (fr : List Fm) (d : Nat) (m : Lo) (t : Sem β) (x : List TO → R α) : Prop :=
  ∀ {σ r σ' g mm s Q E}, x σ = some (r, σ') → St g₀ c fr d m σ g mm s.heap → Fin rel g₀ c fr mm r σ' g s Q E → wpS (model prog w) c.A t Q E s

theorem bnd_split {α β : Type} {x : R α} {f : α → List TO → R β} {r : Ex β} {σ' : List TO} (h : bnd x f = some (r, σ')) : (∃ a σ₁, x = some (.ok a, σ₁) ∧ f a σ₁ = some (r, σ')) ∨ ∃ i, x = some (.exc i, σ') ∧ r = .exc i := by
  cases x with
  | none => simp at h
  | some p =>
    obtain ⟨a, σ₁⟩ := p
    cases a with
    | ok a => exact .inl ⟨a, σ₁, rfl, h⟩
    | exc i => simp only [bnd, Option.some.injEq, Prod.mk.injEq] at h; exact .inr ⟨i, by rw [h.2], h.1.symm⟩

section
variable {prog : Program} {w : World} {g₀ : Heap} {c : Cx} {fr : List Fm} {d : Nat} {m : Lo}

theorem Sub.then {α β α' β' : Type} {rel : Gh → α → β → Prop} {rel' : Gh → α' → β' → Prop} {t : Sem β} {x : List TO → R α} (hs : Sub prog w rel g₀ c fr d m t x) {f : α → List TO → R α'} {σ σ' : List TO} {r : Ex α'} {g : Gh} {mm : Str → Option Value} {s : Shared}
    {Q : β → Shared → Prop} {Q' : β' → Shared → Prop} {E : Value → Shared → Prop} (hx : bnd (x σ) f = some (r, σ')) (st : St g₀ c fr d m σ g mm s.heap) (fin : Fin rel' g₀ c fr mm r σ' g s Q' E)
    (k : ∀ a v σ₁ g₁ h₁ tk, f a σ₁ = some (r, σ') → g.le g₁ → St g₀ c fr d m σ₁ g₁ mm h₁ → rel g₁ a v → Fin rel' g₀ c fr mm r σ' g₁ { s with heap := h₁, toks := tk } Q' E → Q v { s with heap := h₁, toks := tk }) :
    wpS (model prog w) c.A t Q E s := by
  rcases bnd_split hx with ⟨a, σ₁, h1, h2⟩ | ⟨i, h1, rfl⟩
  · refine hs h1 st ⟨fun a' e v g' h' tk l I q => ?_, fun _ e => (nomatch e)⟩
    cases e
    exact k a v σ₁ g' h' tk h2 l (st.next l I) q (fin.later l)
  · exact hs h1 st ⟨fun _ e => (nomatch e), fun j e => (by cases e; exact fin.ex i rfl)⟩

/-- a step that changes nothing that is looked at -/
theorem Fin.pure {α β : Type} {rel : Gh → α → β → Prop} {a : α} {v : β} {σ : List TO} {g : Gh} {mm : Str → Option Value} {s : Shared} {Q : β → Shared → Prop} {E : Value → Shared → Prop} {tk : Nat} (fin : Fin rel g₀ c fr mm (.ok a) σ g s Q E) (st : St g₀ c fr d m σ g mm s.heap) (q : rel g a v) : Q v { s with toks := tk } :=
  fin.ok a rfl v g s.heap tk (Gh.le.refl g) st.I q
/-- a step that makes something -/
theorem Fin.made {α β : Type} {rel : Gh → α → β → Prop} {a : α} {v : β} {σ : List TO} {g : Gh} {mm : Str → Option Value} {s : Shared} {Q : β → Shared → Prop} {E : Value → Shared → Prop} {tk : Nat} {h' : Heap} (fin : Fin rel g₀ c fr mm (.ok a) σ g s Q E) (st : St g₀ c fr d m σ g mm s.heap)
    (k : ∀ b o, s.heap.get? b = some o → h'.get? b = some o) (q : rel (g.grown ((c.L, frmP mm) :: fr) h') a v) : Q v { s with heap := h', toks := tk } :=
  fin.ok a rfl v _ h' tk (st.I.grown_le k) (st.I.grow k) q
end

/-- what stands at the top, for all the run -/
structure TopOk (K : Frag) (p : Program) (loose : List Str) (mean : ExcName → Option Value) (mg mb : Str → Option Value) (g₀ : Heap) : Prop where
  X : K.In g₀
  T : Top p loose mean mg mb g₀

section
variable {prog : Program} {w : World} {K : Frag} {p : Program} {loose : List Str} {mean : ExcName → Option Value} {mg mb : Str → Option Value} {g₀ : Heap} {c : Cx} {fr : List Fm} {d : Nat} {m : Lo} {σ : List TO} {g : Gh} {mm : Str → Option Value}

theorem kindOf_eq (C : CxOk c) (x : Str) : c.env.kindOf x = c.sc.names.lookup x := by rw [Env.kindOf, C.names]

theorem name_local {s : Shared} {x : Str} {pos : Pos} {v : Value} {Q : Value → Shared → Prop} {E : Value → Shared → Prop} (C : CxOk c) (st : St g₀ c fr d m σ g mm s.heap) (hx : c.sc.names.lookup x = some .local) (hd : x ≠ Str.ofString "__debug__") (hv : mm x = some v) (h : Q v s) :
    wpAny (model prog w) c.A (eval (.Name x pos) c.env) Q E s :=
  wpAny_Name (wpAny_loadName_local C.hk ((kindOf_eq C x).trans hx) (C.loc ▸ st.fr.ns) hv h) (by simpa using hd)

theorem name_global {s : Shared} {x : Str} {pos : Pos} {v : Value} {Q : Value → Shared → Prop} {E : Value → Shared → Prop} (O : TopOk K p loose mean mg mb g₀) (C : CxOk c) (st : St g₀ c fr d m σ g mm s.heap) (hx : c.sc.names.lookup x = some .globalImplicit) (hd : x ≠ Str.ofString "__debug__") (hv : globV K x = some v) (h : Q v s) :
    wpAny (model prog w) c.A (eval (.Name x pos) c.env) Q E s := by
  refine Calls.Name_function_global C.hk ((kindOf_eq C x).trans hx) ?_ (by simpa using hd)
  have hg : s.heap.Ns c.env.globals mg := C.glob ▸ O.T.g.keeps st.fr.keep
  unfold globV at hv
  split at hv
  · rename_i u e
    cases hv
    exact Calls.loadGlobal_global hg (mg_of O.X O.T.g e) h
  · rename_i e
    split at hv
    · cases hv
    · rename_i hn
      exact Calls.loadGlobal_builtin hg (mg_none_of O.X O.T.g e) (C.blt ▸ O.T.b.keeps st.fr.keep) ((O.T.builtins x hn).trans hv) h
  · cases hv

theorem VR.toAV {g : Gh} : ∀ (v : Value), VR g (toAV v) v
  | .none => rfl
  | .bool _ => rfl
  | .int _ t => ⟨t, rfl⟩
  | .str s t => ⟨t, rfl⟩
  | .bytes b t => ⟨t, rfl⟩
  | .ellipsis => rfl
  | .notImplemented => rfl
  | .float _ _ => rfl
  | .type _ => rfl
  | .builtin _ => rfl
  | .ref _ => rfl
end
end Mine
end

section
open PySem PySem.W PyProof.Rows
set_option maxRecDepth 100000
namespace Mine

noncomputable def opOf : BK → Operator
  | .add => .Add
  | .sub => .Sub
  | .mul => .Mult
  | .mod => .Mod
  | .div => .FloorDiv
theorem opOf_eq {op : Operator} {k : BK} (h : cBin op = some k) : op = opOf k := by cases op <;> simp [cBin] at h <;> subst h <;> rfl

section
variable {prog : Program} {w : World} {g₀ : Heap} {c : Cx} {fr : List Fm} {d : Nat} {m : Lo} {σ : List TO} {g : Gh} {mm : Str → Option Value} {s : Shared} {Q : Value → Shared → Prop} {E : Value → Shared → Prop}

theorem bin_ok {op : Operator} {k : BK} {a b r : AV} {u v : Value} (hk : cBin op = some k) (h : binA k a b = some r) (ha : VR g a u) (hb : VR g b v) (st : St g₀ c fr d m σ g mm s.heap) (fin : Fin VR g₀ c fr mm (.ok r) σ g s Q E) :
    wpAny (model prog w) c.A (binaryOp op u v) Q E s := by
  obtain rfl := opOf_eq hk
  unfold binA at h
  split at h
  · obtain ⟨t, rfl⟩ := ha; obtain ⟨t', rfl⟩ := hb; cases h
    exact add_int (fin.pure st ⟨_, rfl⟩)
  · obtain ⟨t, rfl⟩ := ha; obtain ⟨t', rfl⟩ := hb; cases h
    exact sub_int' (fin.pure st ⟨_, rfl⟩)
  · obtain ⟨t, rfl⟩ := ha; obtain ⟨t', rfl⟩ := hb
    split at h
    · rename_i e; cases h; subst e
      exact P.mul_int (fin.pure st ⟨_, rfl⟩) (IntMulOk.of_right (by decide +kernel))
    · cases h
  · obtain ⟨t, rfl⟩ := ha; obtain ⟨t', rfl⟩ := hb
    split at h
    · cases h
    · rename_i e; cases h
      exact mod_int' e (fin.pure st ⟨_, rfl⟩)
  · obtain ⟨t, rfl⟩ := ha; obtain ⟨t', rfl⟩ := hb
    split at h
    · rename_i e; cases h; subst e
      exact floordiv_int (by decide) (fin.pure st ⟨_, rfl⟩) (.inl (PyProof.noPylong_small (by decide)))
    · cases h
  · obtain ⟨t, rfl⟩ := ha; obtain ⟨t', rfl⟩ := hb
    split at h
    · rename_i x y e; cases h
      refine PyProof.Rows.add_str (fun t tk => fin.pure st ⟨t, ?_⟩) ?_
      · show Value.str (Str.append _ _) t = _
        simp [Str.append]
      · show x.toArray.size + y.toArray.size ≤ 2 ^ 24
        simp only [List.size_toArray]; omega
    · cases h
  · obtain ⟨t, rfl⟩ := ha; obtain ⟨t', rfl⟩ := hb
    split at h
    · rename_i x y e; cases h
      refine KBy.add_bytes (by simp only [List.size_toArray]; omega) (fun t tk => fin.pure st ⟨t, ?_⟩)
      simp
    · cases h
  · cases h
end
end Mine

namespace Mine
theorem VRs.toAV {g : Gh} : ∀ (vs : List Value), VRs g (vs.map toAV) vs
  | [] => rfl
  | v :: vs => ⟨v, vs, rfl, VR.toAV v, VRs.toAV vs⟩
theorem strs_are {g : Gh} : ∀ {as : List AV} {us : List Value} {l : List (List Nat)}, strsOf as = some l → VRs g as us → StrsAre us (l.map fun x => ⟨x.toArray⟩)
  | [], us, l, h, r => by cases h; rw [show us = [] from r]; exact .nil
  | .str x :: as, us, l, h, ⟨v, vs, e, ⟨t, q⟩, r⟩ => by
    simp only [strsOf, Option.map_eq_some_iff] at h
    obtain ⟨l', h', rfl⟩ := h
    subst e q
    exact .cons _ t (strs_are h' r)
  | .none :: _, _, _, h, _ => by simp [strsOf] at h
  | .bool _ :: _, _, _, h, _ => by simp [strsOf] at h
  | .int _ :: _, _, _, h, _ => by simp [strsOf] at h
  | .bytes _ :: _, _, _, h, _ => by simp [strsOf] at h
  | .tup _ :: _, _, _, h, _ => by simp [strsOf] at h
  | .val _ :: _, _, _, h, _ => by simp [strsOf] at h
  | .loc _ :: _, _, _, h, _ => by simp [strsOf] at h
  | .wire _ :: _, _, _, h, _ => by simp [strsOf] at h
  | .fl _ :: _, _, _, h, _ => by simp [strsOf] at h
theorem ints_are {g : Gh} : ∀ {as : List AV} {us : List Value} {l : List Int}, intsOf as = some l → VRs g as us → IntsAre us l
  | [], us, l, h, r => by cases h; rw [show us = [] from r]; exact .nil
  | .int x :: as, us, l, h, ⟨v, vs, e, ⟨t, q⟩, r⟩ => by
    simp only [intsOf, Option.map_eq_some_iff] at h
    obtain ⟨l', h', rfl⟩ := h
    subst e q
    exact .cons _ t (ints_are h' r)
  | .none :: _, _, _, h, _ => by simp [intsOf] at h
  | .bool _ :: _, _, _, h, _ => by simp [intsOf] at h
  | .str _ :: _, _, _, h, _ => by simp [intsOf] at h
  | .bytes _ :: _, _, _, h, _ => by simp [intsOf] at h
  | .tup _ :: _, _, _, h, _ => by simp [intsOf] at h
  | .val _ :: _, _, _, h, _ => by simp [intsOf] at h
  | .loc _ :: _, _, _, h, _ => by simp [intsOf] at h
  | .wire _ :: _, _, _, h, _ => by simp [intsOf] at h
  | .fl _ :: _, _, _, h, _ => by simp [intsOf] at h

/-- a tuple: where it stands -/
theorem tup_at {K : Frag} {g₀ : Heap} {g : Gh} {fr : List Fm} {σ : List TO} {h : Heap} {a : AV} {u : Value} {vs : List AV} (X : K.In g₀) (I : Inv g₀ g fr σ h) (r : VR g a u) (e : tupItems K a = some vs) :
    ∃ x items n, u = .ref x ∧ g.frz x = some (tupObj items n) ∧ VRs g vs items.toList := by
  unfold tupItems at e
  split at e
  · cases e
    obtain ⟨x, items, n, q, f, z⟩ := r
    exact ⟨x, items, n, q, f, z⟩
  · rename_i x
    split at e
    · rename_i items n sl hl
      split at e
      · rename_i hsl
        cases e
        have : sl = #[] := by simpa using hsl
        subst this
        exact ⟨_, items, n, r, I.base _ _ (X _ _ hl), VRs.toAV _⟩
      · cases e
    · cases e
  · cases e
theorem isTup_of {h : Heap} {x : Addr} {items : Array Value} {n : Nat} (e : h.get? x = some (tupObj items n)) : IsTup h x items := ⟨_, e, rfl, n, rfl⟩
theorem isList_of {h : Heap} {x : Addr} {items : Array Value} {n : Nat} (e : h.get? x = some (lstObj items n)) : h.IsList x items := ⟨_, e, rfl, n, rfl⟩

mutual
theorem reads_of {g : Gh} {h : Heap} (k : ∀ b o, g.frz b = some o → h.get? b = some o) : ∀ {a : AV} {d : PyData} {v : Value}, dataT a = some d → VR g a v → ∃ as, Reads h v d as
  | .none, d, v, e, r => by cases e; rw [show v = .none from r]; exact ⟨_, .none⟩
  | .int i, d, v, e, ⟨t, r⟩ => by cases e; subst r; exact ⟨_, .int i t⟩
  | .tup vs, d, v, e, ⟨x, items, n, q, f, r⟩ => by
    simp only [dataT, Option.map_eq_some_iff] at e
    obtain ⟨ds, hd, rfl⟩ := e
    obtain ⟨as, hr⟩ := readsAll_of k hd r
    subst q
    exact ⟨as, .tuple (k _ _ f) rfl rfl hr⟩
  | .bool _, _, _, e, _ => by simp [dataT] at e
  | .str _, _, _, e, _ => by simp [dataT] at e
  | .bytes _, _, _, e, _ => by simp [dataT] at e
  | .val _, _, _, e, _ => by simp [dataT] at e
  | .loc _, _, _, e, _ => by simp [dataT] at e
  | .wire _, _, _, e, _ => by simp [dataT] at e
  | .fl _, _, _, e, _ => by simp [dataT] at e
theorem readsAll_of {g : Gh} {h : Heap} (k : ∀ b o, g.frz b = some o → h.get? b = some o) : ∀ {as : List AV} {ds : List PyData} {vs : List Value}, dataTs as = some ds → VRs g as vs → ∃ l, ReadsAll h vs ds l
  | [], ds, vs, e, r => by cases e; rw [show vs = [] from r]; exact ⟨_, .nil⟩
  | a :: as, ds, vs, e, ⟨v, vs', q, r, rs⟩ => by
    simp only [dataTs, Option.bind_eq_some_iff, Option.map_eq_some_iff] at e
    obtain ⟨d, hd, ds', hds, rfl⟩ := e
    obtain ⟨l1, h1⟩ := reads_of k hd r
    obtain ⟨l2, h2⟩ := readsAll_of k hds rs
    subst q
    exact ⟨_, .cons h1 h2⟩
end
theorem readsTop_of {K : Frag} {g₀ : Heap} {g : Gh} {fr : List Fm} {σ : List TO} {h : Heap} {a : AV} {u : Value} {d : PyData} (X : K.In g₀) (I : Inv g₀ g fr σ h) (r : VR g a u) (e : dataTop K a = some d) : ∃ as, Reads h u d as := by
  unfold dataTop at e
  split at e
  · rename_i v
    simp only [Option.bind_eq_some_iff, Option.map_eq_some_iff] at e
    obtain ⟨vs, h1, ds, h2, rfl⟩ := e
    obtain ⟨x, items, n, rfl, f, z⟩ := tup_at X I r h1
    obtain ⟨as, hr⟩ := readsAll_of I.fz h2 z
    exact ⟨as, .tuple (I.fz _ _ f) rfl rfl hr⟩
  · exact reads_of I.fz e r

/-- a list of ints and plain texts is data -/
theorem reads_plain {g : Gh} {h : Heap} : ∀ {as : List AV} {vs : List Value}, as.all plainA = true → VRs g as vs → ∃ ds l, ReadsAll h vs ds l ∧ ds.length = as.length ∧ PyData.canLayAll0 ds = true ∧ PyData.depthAll ds = 0
  | [], vs, _, r => by rw [show vs = [] from r]; exact ⟨[], [], .nil, rfl, rfl, rfl⟩
  | a :: as, vs, e, ⟨v, vs', q, r, rs⟩ => by
    rw [List.all_cons, Bool.and_eq_true] at e
    obtain ⟨ds, l, h1, h2, h3, h4⟩ := reads_plain (h := h) e.2 rs
    subst q
    cases a with
    | int i =>
      obtain ⟨t, rfl⟩ := r
      exact ⟨.int i :: ds, _, .cons (.int i t) h1, by simp [h2], by simp [PyData.canLayAll0, PyData.canLay0, h3], by simp [PyData.depthAll, PyData.depth, h4]⟩
    | str x =>
      obtain ⟨t, rfl⟩ := r
      refine ⟨.str ⟨x.toArray⟩ :: ds, _, .cons (.str _ t) h1, by simp [h2], ?_, by simp [PyData.depthAll, PyData.depth, h4]⟩
      have hx : PyData.strOk ⟨x.toArray⟩ = true := by
        simp only [plainA, List.all_eq_true, decide_eq_true_eq] at e
        simp only [PyData.strOk, List.all_toArray, List.all_eq_true, decide_eq_true_eq]
        exact fun c hc => Nat.lt_trans (e.1 c hc) (by decide)
      simp [PyData.canLayAll0, PyData.canLay0, h3, hx]
    | _ => simp [plainA] at e
end Mine
end

section
open PySem PySem.W PyProof.Rows
set_option maxRecDepth 100000
namespace Mine

noncomputable def cmpOf : CK → CmpOp
  | .eq => .Eq
  | .ne => .NotEq
  | .lt => .Lt
  | .le => .LtE
  | .gt => .Gt
  | .ge => .GtE
  | .is => .Is
  | .inn => .In
  | .nin => .NotIn
theorem cmpOf_eq {op : CmpOp} {k : CK} (h : cCmp op = some k) : op = cmpOf k := by cases op <;> simp [cCmp] at h <;> subst h <;> rfl

section
variable {prog : Program} {w : World} {A : Around} {E : Value → Shared → Prop} {s : Shared}
theorem contains_bytes {b : Array UInt8} {t u : Tok} {c : Int} {Q : Bool → Shared → Prop} (h0 : 0 ≤ c) (h1 : c < 256) (h : Q (b.contains c.toNat.toUInt8) s) : wpAny (model prog w) A (contains (.bytes b t) (.int c u)) Q E s := by
  refine wpAny_contains_slot (typeIs_bytes s b t) FB.slot_bytes_contains (wpAny_call_entry FB.slot_bytes_contains (typeIs_bytes s b t) FB.entry_bytes_contains ?_ (FB.args_bytes_contains_2 _ _))
  show wpAny _ _ (Builtin.Bytes.containsIn "bytes.__contains__" (.bytes b t) (.int c u) >>= fun r => PySem.ret (Value.bool r)) _ _ s
  refine wpAny_bind ?_
  unfold Builtin.Bytes.containsIn
  refine wpAny_bind (wpAny_attempt ?_)
  show wpAny _ _ (pure c) _ _ s
  refine wpAny_pure (wpAny_bind (wpAny_of_eq KBy.buffer_eq ?_))
  dsimp only
  have hn : (decide (c < 0) || decide (c ≥ 256)) = false := by simp; omega
  simp only [hn]
  exact wpAny_pure (wpAny_pure ⟨_, rfl, wpAny_truthy_bool h⟩)
theorem cmp_in {u v : Value} {Q : Value → Shared → Prop} {b : Bool} (h : ∀ R : Bool → Shared → Prop, R b s → wpAny (model prog w) A (contains v u) R E s) (q : Q (.bool b) s) : wpAny (model prog w) A (compareOp .In u v) Q E s := by
  show wpAny _ _ (do return .bool (← contains v u)) Q E s
  exact wpAny_bind (h _ (wpAny_pure q))
theorem cmp_nin {u v : Value} {Q : Value → Shared → Prop} {b : Bool} (h : ∀ R : Bool → Shared → Prop, R b s → wpAny (model prog w) A (contains v u) R E s) (q : Q (.bool (!b)) s) : wpAny (model prog w) A (compareOp .NotIn u v) Q E s := by
  show wpAny _ _ (do return .bool (!(← contains v u))) Q E s
  exact wpAny_bind (h _ (wpAny_pure q))
end

section
variable {prog : Program} {w : World} {K : Frag} {g₀ : Heap} {g : Gh} {fr : List Fm} {σ : List TO} {A : Around} {E : Value → Shared → Prop} {s : Shared}

theorem str_beq (a b : List Nat) : ((⟨a.toArray⟩ : Str) == ⟨b.toArray⟩) = (a == b) := by
  by_cases h : a = b
  · subst h; simp
  · have : (⟨a.toArray⟩ : Str) ≠ ⟨b.toArray⟩ := fun q => h (by simpa using congrArg (fun x : Str => x.cps.toList) q)
    rw [beq_eq_false_iff_ne.mpr this, beq_eq_false_iff_ne.mpr h]
theorem any_strs (l : List (List Nat)) (k : List Nat) : ((l.map fun x => (⟨x.toArray⟩ : Str)).any fun y => y == ⟨k.toArray⟩) = l.any (· == k) := by
  rw [List.any_map]
  congr 1
  funext x
  exact str_beq x k

/-- the ways that `in` is known -/
theorem in_ok {a b : AV} {r : Bool} {u v : Value} (X : K.In g₀) (I : Inv g₀ g fr σ s.heap) (ha : VR g a u) (hb : VR g b v) (h : inA K σ a b = some r) {Q : Value → Shared → Prop} :
    (Q (.bool r) s → wpAny (model prog w) A (compareOp .In u v) Q E s) ∧ (Q (.bool (!r)) s → wpAny (model prog w) A (compareOp .NotIn u v) Q E s) := by
  unfold inA at h
  split at h
  · rename_i c l
    obtain ⟨t, rfl⟩ := ha; obtain ⟨t', rfl⟩ := hb
    split at h
    · rename_i hc
      cases h
      have key : ∀ R : Bool → Shared → Prop, R (l.contains (UInt8.ofNat c.toNat)) s → wpAny (model prog w) A (contains (.bytes l.toArray t') (.int c t)) R E s := fun R q => contains_bytes hc.1 hc.2 (by simpa using q)
      exact ⟨fun q => cmp_in key q, fun q => cmp_nin key q⟩
    · cases h
  · rename_i c l
    obtain ⟨t, rfl⟩ := ha; obtain ⟨t', rfl⟩ := hb
    cases h
    have e : Txt.contains ⟨l.toArray⟩ ⟨[c].toArray⟩ = l.contains c := by
      show (!(Builtin.Str.occurrences _ _ 0 _ 1).isEmpty) = _
      rw [show (⟨[c].toArray⟩ : Str) = ⟨#[c]⟩ from rfl, StrLaws.found_one]
      simp [List.contains_eq_mem]
    exact ⟨fun q => SB.contains (by rw [e]; exact q), fun q => SB.notContains (by rw [e]; exact q)⟩
  · rename_i k i
    obtain ⟨t, rfl⟩ := ha; obtain ⟨x, rfl, l⟩ := hb
    split at h
    · rename_i vs e
      simp only [Option.map_eq_some_iff] at h
      obtain ⟨ls, h1, rfl⟩ := h
      obtain ⟨x', l', items, n, hx, z⟩ := I.so i _ e
      rw [l] at l'; cases l'
      have hs := strs_are h1 z
      rw [← any_strs]
      exact ⟨fun q => in_list_strs (isList_of (items := items.toList.toArray) hx) hs q, fun q => notin_list_strs (isList_of (items := items.toList.toArray) hx) hs q⟩
    · cases h
  · rename_i k _ _
    obtain ⟨t, rfl⟩ := ha
    simp only [Option.bind_eq_some_iff, Option.map_eq_some_iff] at h
    obtain ⟨vs, h1, ls, h2, rfl⟩ := h
    obtain ⟨x, items, n, rfl, f, z⟩ := tup_at X I hb h1
    have hs := strs_are h2 z
    rw [← any_strs]
    exact ⟨fun q => in_tuple_strs (isTup_of (I.fz _ _ f)) hs q, fun q => notin_tuple_strs (isTup_of (I.fz _ _ f)) hs q⟩
  · rename_i k _
    obtain ⟨t, rfl⟩ := ha
    simp only [Option.bind_eq_some_iff, Option.map_eq_some_iff] at h
    obtain ⟨vs, h1, ls, h2, rfl⟩ := h
    obtain ⟨x, items, n, rfl, f, z⟩ := tup_at X I hb h1
    have hs := ints_are h2 z
    exact ⟨fun q => in_tuple_ints (isTup_of (I.fz _ _ f)) hs q, fun q => notin_tuple_ints (isTup_of (I.fz _ _ f)) hs q⟩
  · cases h

theorem eqv_nil (ds : List PyData) : PyData.eqv (.list ds) (.list []) = ds.isEmpty := by
  cases ds <;> simp [PyData.eqv, PyData.eqvAll]
theorem eq_ok {a b : AV} {r : Bool} {u v : Value} (X : K.In g₀) (I : Inv g₀ g fr σ s.heap) (hu : A.units + 64 < cLine) (ha : VR g a u) (hb : VR g b v) (h : eqA K σ a b = some r) {Q : Value → Shared → Prop} :
    (Q (.bool r) s → wpAny (model prog w) A (compareOp .Eq u v) Q E s) ∧ (Q (.bool (!r)) s → wpAny (model prog w) A (compareOp .NotEq u v) Q E s) := by
  unfold eqA at h
  split at h
  · rename_i i j
    obtain ⟨x, rfl, l⟩ := ha; obtain ⟨y, rfl, l'⟩ := hb
    split at h
    · rename_i vs e1 e2
      split at h
      · rename_i hp
        cases h
        obtain ⟨x', q, items, n, hx, z⟩ := I.so i _ e1
        rw [l] at q; cases q
        obtain ⟨y', q, items', n', hy, z'⟩ := I.so j _ e2
        rw [l'] at q; cases q
        obtain ⟨ds, as, h1, h2, h3, h4⟩ := reads_plain (h := s.heap) hp z
        have hr1 : Reads s.heap (.ref x) (.list ds) (x :: as) := .list hx rfl rfl h1
        have hr2 : Reads s.heap (.ref y) (.list []) [y] := .list hy rfl rfl (by rw [show items'.toList = [] from z']; exact .nil)
        have s1 : SeqAt.shaped (.list ds) = true := by simp [SeqAt.shaped, PyData.canLay0, PyData.depth, h3, h4]
        have s2 : SeqAt.shaped (.list []) = true := by decide
        have e : PyData.eqv (.list ds) (.list []) = vs.isEmpty := by
          rw [eqv_nil]
          cases ds <;> cases vs <;> simp_all
        exact ⟨fun q => eq_dataH hr1 hr2 s1 s2 hu (by rw [e]; exact q), fun q => ne_dataH hr1 hr2 s1 s2 hu (by rw [e]; exact q)⟩
      · cases h
    · cases h
  · obtain ⟨t, rfl⟩ := ha; obtain ⟨t', rfl⟩ := hb
    cases h
    exact ⟨fun q => PyProof.Rows.eq_str (by rw [str_beq]; exact q), fun q => PyProof.Rows.ne_str (by rw [bne, str_beq]; exact q)⟩
  · obtain ⟨t, rfl⟩ := ha; obtain ⟨t', rfl⟩ := hb
    cases h
    exact ⟨fun q => eq_bytes (by simpa using q), fun q => ne_bytes (by simpa [bne] using q)⟩
  · split at h
    · rename_i da db e1 e2
      split at h
      · rename_i hs
        cases h
        rw [Bool.and_eq_true] at hs
        obtain ⟨_, r1⟩ := readsTop_of X I ha e1
        obtain ⟨_, r2⟩ := readsTop_of X I hb e2
        exact ⟨fun q => eq_dataH r1 r2 hs.1 hs.2 hu q, fun q => ne_dataH r1 r2 hs.1 hs.2 hu q⟩
      · cases h
    · cases h

theorem cmp_ok {op : CmpOp} {k : CK} {a b : AV} {r : Bool} {u v : Value} (X : K.In g₀) (I : Inv g₀ g fr σ s.heap) (hu : A.units + 64 < cLine) (ha : VR g a u) (hb : VR g b v) (hk : cCmp op = some k) (h : cmpA K σ k a b = some r) {Q : Value → Shared → Prop} (q : Q (.bool r) s) :
    wpAny (model prog w) A (compareOp op u v) Q E s := by
  obtain rfl := cmpOf_eq hk
  unfold cmpA at h
  split at h
  · exact (eq_ok X I hu ha hb h).1 q
  · simp only [Option.map_eq_some_iff] at h
    obtain ⟨r', h, rfl⟩ := h
    exact (eq_ok X I hu ha hb h).2 q
  · obtain ⟨t, rfl⟩ := ha; obtain ⟨t', rfl⟩ := hb; cases h; exact P.lt_int q
  · obtain ⟨t, rfl⟩ := ha; obtain ⟨t', rfl⟩ := hb; cases h; exact P.le_int q
  · obtain ⟨t, rfl⟩ := ha; obtain ⟨t', rfl⟩ := hb; cases h; exact P.gt_int q
  · obtain ⟨t, rfl⟩ := ha; obtain ⟨t', rfl⟩ := hb; cases h; exact P.ge_int q
  · rename_i x y
    obtain ⟨t, rfl⟩ := ha; obtain ⟨t', rfl⟩ := hb; cases h
    refine P.le_str ?_
    have e : ([y] : List Nat) < [x] ↔ y < x := by rw [List.cons_lt_cons_iff]; simp
    have e2 : (!decide (([y] : List Nat) < [x])) = decide (x ≤ y) := by
      rw [decide_eq_decide.mpr e]
      by_cases hxy : x ≤ y
      · have : ¬ y < x := by omega
        rw [decide_eq_true hxy, decide_eq_false this]; rfl
      · have : y < x := by omega
        rw [decide_eq_false hxy, decide_eq_true this]; rfl
    show Q (.bool (!decide (([y] : List Nat) < [x]))) s
    rw [e2]; exact q
  · obtain rfl : v = .none := hb
    refine is_none_gen ?_
    split at h
    · cases h; rw [show u = .none from ha]; exact q
    · cases h; obtain ⟨x, _, _, rfl, _⟩ := ha; exact q
    · cases h; obtain ⟨t, rfl⟩ := ha; exact q
    · cases h
  · exact (in_ok X I ha hb h).1 q
  · simp only [Option.map_eq_some_iff] at h
    obtain ⟨r', h, rfl⟩ := h
    exact (in_ok X I ha hb h).2 q
  · cases h
end
end Mine
end

section
open PySem PySem.W PyProof.Rows
set_option maxRecDepth 100000
namespace Mine

theorem letGo_ok (value : Expr) {o : Value} (h : ∀ a, o ≠ .ref a) (r : Value) : letTemporaryGo value o r = pure () := by
  cases value <;> cases o <;> first | rfl | exact absurd rfl (h _)
theorem subscripted_ok (slice : Expr) (o i : Value) : ∃ ops, subscripted slice false o i = operate ops (getItem o i) := by
  unfold subscripted
  split
  · exact ⟨_, rfl⟩
  · rename_i h; cases h
  · exact ⟨_, rfl⟩

theorem cut_eq {α : Type} (l : List α) (a b : Nat) : (l.drop (min a l.length)).take (min b l.length - min a l.length) = (l.take b).drop a := by
  rw [List.drop_take]
  by_cases ha : a ≤ l.length
  · rw [Nat.min_eq_left ha]
    by_cases hb : b ≤ l.length
    · rw [Nat.min_eq_left hb]
    · rw [Nat.min_eq_right (show l.length ≤ b by omega), List.take_of_length_le (by rw [List.length_drop]; omega), List.take_of_length_le (by rw [List.length_drop]; omega)]
  · rw [Nat.min_eq_right (show l.length ≤ a by omega), List.drop_of_length_le (Nat.le_refl _), List.drop_of_length_le (show l.length ≤ a by omega)]
    simp

theorem sliceL_eq {α : Type} {l r : List α} {lo hi : Option Int} (h : sliceL l lo hi = some r) : l.length ≤ 100000 ∧ hi.elim l.length (clipAt l.length) ≤ l.length ∧ (l.drop (lo.elim 0 (clipAt l.length))).take (hi.elim l.length (clipAt l.length) - lo.elim 0 (clipAt l.length)) = r := by
  unfold sliceL at h
  dsimp only at h
  split at h
  · rename_i hc
    cases h
    refine ⟨hc.2.2, ?_⟩
    have e1 : lo.elim 0 (clipAt l.length) = min (lo.getD 0).toNat l.length := by
      cases lo with
      | none => simp
      | some a =>
        have : 0 ≤ a := hc.1
        have z := clipAt_nat l.length a.toNat
        rw [Int.toNat_of_nonneg this] at z
        simpa using z
    have e2 : hi.elim l.length (clipAt l.length) = min (hi.getD l.length).toNat l.length := by
      cases hi with
      | none => simp
      | some a =>
        have : 0 ≤ a := hc.2.1
        have z := clipAt_nat l.length a.toNat
        rw [Int.toNat_of_nonneg this] at z
        simpa using z
    rw [e1, e2]
    exact ⟨Nat.min_le_right _ _, cut_eq l _ _⟩
  · cases h

theorem str_slice_eq {l r : List Nat} {lo hi : Option Int} (h : sliceL l lo hi = some r) : Txt.slice ⟨l.toArray⟩ lo hi = ⟨r.toArray⟩ := by
  obtain ⟨_, e0, e⟩ := sliceL_eq h
  have key : Builtin.Str.strSliceIndices lo hi 1 l.length = sliceRange (sliceBounds lo hi none l.length).1 (sliceBounds lo hi none l.length).2.1 (sliceBounds lo hi none l.length).2.2 := by
    cases lo <;> cases hi <;> rfl
  have hl : Str.length ⟨l.toArray⟩ = l.length := by simp [Str.length]
  unfold Txt.slice
  rw [hl, key, sliceBounds_plain]
  simp only [sliceRange_one, pick_run]
  split
  · rename_i hc
    simp only [List.length_map, List.length_range, beq_self_eq_true, Bool.true_and, beq_iff_eq] at hc
    rw [← e]
    generalize lo.elim 0 (clipAt l.length) = a at hc
    generalize hi.elim l.length (clipAt l.length) = b at hc e0
    rw [hc]
    by_cases h0 : l.length = 0
    · rw [List.eq_nil_of_length_eq_zero h0]; simp
    · have : a = 0 := by omega
      subst this
      simp
  · rw [← e]
theorem bytes_slice_eq {l r : List UInt8} {lo hi : Option Int} (h : sliceL l lo hi = some r) : KBy.picked l.toArray lo hi = r.toArray := by
  obtain ⟨_, _, e⟩ := sliceL_eq h
  rw [KBc.picked_eq]
  simp only [List.size_toArray]
  rw [← e]

section
variable {prog : Program} {w : World} {K : Frag} {g₀ : Heap} {c : Cx} {fr : List Fm} {d : Nat} {m : Lo} {σ : List TO} {g : Gh} {mm : Str → Option Value} {s : Shared} {Q : Value → Shared → Prop} {E : Value → Shared → Prop}

theorem sub_ok {a i r : AV} {u v : Value} {value slice : Expr} (X : K.In g₀) (h : subA K σ a i = some r) (ha : VR g a u) (hi : VR g i v) (st : St g₀ c fr d m σ g mm s.heap) (fin : Fin VR g₀ c fr mm (.ok r) σ g s Q E) :
    wpAny (model prog w) c.A (subscriptTail value slice u v) Q E s := by
  obtain ⟨ops, hs⟩ := subscripted_ok slice u v
  unfold subA at h
  split at h
  · rename_i b i
    obtain ⟨t, rfl⟩ := ha; obtain ⟨t', rfl⟩ := hi
    split at h
    · rename_i h0
      simp only [Option.map_eq_some_iff] at h
      obtain ⟨x, hx, rfl⟩ := h
      have hlt : i.toNat < b.length := (List.getElem?_eq_some_iff.mp hx).1
      refine tail_any (typeIs_bytes s _ t) FB.slot_bytes_getitem.lookup (getItem_bytes (by omega) h0.1 (by omega) (fin.pure st ?_)) hs
      rw [List.getD_eq_getElem?_getD, hx]
      exact ⟨_, rfl⟩
    · cases h
  · rename_i k i
    obtain ⟨x, rfl, l⟩ := ha; obtain ⟨t', rfl⟩ := hi
    split at h
    · rename_i vs e
      split at h
      · rename_i h0
        obtain ⟨x', l', items, n, hx, z⟩ := st.I.so k _ e
        rw [l] at l'; cases l'
        obtain ⟨u, hu, hr⟩ := z.get h
        have hL := isList_of hx
        have hlt : i.toNat < vs.length := (List.getElem?_eq_some_iff.mp h).1
        exact tail_any hL.typeIs slot_list_getitem.lookup (wpAny_getItem_list hL h0.1 (by omega) (by rw [← Array.getElem?_toList]; exact hu) (fin.pure (tk := s.toks) st (hr.mono g.bare_le))) hs
      · cases h
    · cases h
  · rename_i a i _ _
    obtain ⟨t', rfl⟩ := hi
    simp only [Option.bind_eq_some_iff] at h
    obtain ⟨vs, h1, h⟩ := h
    split at h
    · rename_i h0
      obtain ⟨x, items, n, rfl, f, z⟩ := tup_at X st.I ha h1
      obtain ⟨u, hu, hr⟩ := z.get h
      have hT := isTup_of (st.I.fz _ _ f)
      have hlt : i.toNat < vs.length := (List.getElem?_eq_some_iff.mp h).1
      have hl := z.length
      have e : seqIndex? i items.size = some i.toNat := by
        have h2 : ¬ i < 0 := by omega
        have h3 : i < items.size := by rw [← Array.length_toList, hl]; omega
        simp [seqIndex?, h2, h0.1, h3]
      exact tail_any hT.typeIs slot_tuple_getitem.lookup (getItem_tuple hT (by omega) (by omega) e (by rw [← Array.getElem?_toList]; exact hu) (fin.pure (tk := s.toks) st hr)) hs
    · cases h
  · cases h

theorem optI_part {g : Gh} {a : Option AV} {i : Option Int} {v : Value} (h : optI a = some i) (hv : OptR g a v) : IsPart v i := by
  unfold optI at h
  split at h
  · cases h; rw [show v = .none from hv]; exact .none
  · cases h; obtain ⟨t, rfl⟩ := hv; exact .int _ t
  · cases h

theorem slice_ok {o : AV} {lo hi : Option AV} {u l h : Value} {r : Ex AV} {σ' : List TO} {value : Expr} {el eh : Option Expr} {pos : Pos} (hx : sliceA σ o lo hi = some (r, σ')) (ho : VR g o u) (hl : OptR g lo l) (hh : OptR g hi h)
    (st : St g₀ c fr d m σ g mm s.heap) (fin : Fin VR g₀ c fr mm r σ' g s Q E) :
    wpAny (model prog w) c.A (subscriptTail value (.Slice el eh none pos) u (.ref s.heap.objs.size)) Q E { s with heap := s.heap.push { cls := .type "slice", data := .fields #[l, h, .none] } } := by
  have kp : ∀ b o', s.heap.get? b = some o' → (s.heap.push { cls := .type "slice", data := .fields #[l, h, .none] }).get? b = some o' := fun b o' e => Heap.get?_push_of_some _ e
  have hkeep : KeptH fun h' => ∀ b o', s.heap.get? b = some o' → h'.get? b = some o' := fun h' o' k b o'' e => Heap.get?_push_of_some _ (k b o'' e)
  unfold sliceA at hx
  split at hx
  · rename_i lo' hi' e1 e2
    have p1 := optI_part e1 hl
    have p2 := optI_part e2 hh
    split at hx
    · rename_i b
      simp only [opt, Option.map_eq_some_iff] at hx
      obtain ⟨v, ⟨r', hr, rfl⟩, q⟩ := hx
      cases q
      obtain ⟨t, rfl⟩ := ho
      refine tail_of_ItemOn ⟨"bytes", _, FB.slot_bytes_getitem.lookup, typeIs_bytes _ _ _, getItem_meets (typeIs_bytes _ _ _) (by decide) FB.slot_bytes_getitem FB.entry_bytes_getitem (FB.args_bytes_getitem_2 _ _) (KBc.meets_slice2 b.toArray t _ p1 p2)
        ⟨Heap.IsSliceOf.new _ _ _ _, ?_, fun t' k => ?_⟩⟩ rfl (fun r => letGo_ok value (by intro _ e; cases e) r)
      · refine Nat.le_trans (KBc.size_picked_le _ _ _) ?_
        rw [List.size_toArray, sizeLine_eq]; have := (sliceL_eq hr).1; omega
      · rw [bytes_slice_eq hr]
        exact fin.made st kp ⟨_, rfl⟩
    · rename_i b
      simp only [opt, Option.map_eq_some_iff] at hx
      obtain ⟨v, ⟨r', hr, rfl⟩, q⟩ := hx
      cases q
      obtain ⟨t, rfl⟩ := ho
      have hsz : Str.length ⟨b.toArray⟩ ≤ sizeLine := by
        rw [sizeLine_eq]; have := (sliceL_eq hr).1; simp [Str.length]; omega
      have fin' : ∀ h' t' k, (∀ b o', s.heap.get? b = some o' → h'.get? b = some o') → Q (.str (Txt.slice ⟨b.toArray⟩ lo' hi') t') { s with heap := h', toks := k } := fun h' t' k kk => by
        rw [str_slice_eq hr]
        exact fin.made st kk ⟨_, rfl⟩
      refine tail_of_ItemOn ?_ rfl (fun r => letGo_ok value (by intro _ e; cases e) r)
      cases p1 <;> cases p2
      · exact SBH.sliceItem_nn hkeep (fun _ _ e => e) fin' hsz
      · exact SBH.sliceItem_ns hkeep (fun _ _ e => e) fin' hsz
      · exact SBH.sliceItem_sn hkeep (fun _ _ e => e) fin' hsz
      · exact SBH.sliceItem_ss hkeep (fun _ _ e => e) fin' hsz
    · rename_i b
      simp only [opt, Option.map_eq_some_iff] at hx
      obtain ⟨v, ⟨r', hr, rfl⟩, q⟩ := hx
      cases q
      obtain ⟨a, o, items, n, rfl, f, hcls, hdata, z⟩ := ho
      have hz := z.length
      rw [Array.length_toList] at hz
      obtain ⟨hlen, _, hcut⟩ := sliceL_eq hr
      have hL : (s.heap.push { cls := .type "slice", data := .fields #[l, h, .none] }).IsList a items := ⟨o, kp _ _ (st.I.fz _ _ f), hcls, n, hdata⟩
      refine tail_any (s := { s with heap := s.heap.push { cls := .type "slice", data := .fields #[l, h, .none] } }) hL.typeIs slot_list_getitem.lookup (wpAny_getItem_list_slice hL (Heap.IsSliceOf.new _ _ _ _) p1 p2 .none (by decide) ?_ (by rw [sizeLine_eq]; omega)) rfl
      have kp2 : ∀ b o', s.heap.get? b = some o' → ((s.heap.push { cls := .type "slice", data := .fields #[l, h, .none] }).push { cls := .type "list", data := .seq (slicePick items lo' hi' none) }).get? b = some o' := fun b o' e => Heap.get?_push_of_some _ (kp _ _ e)
      have key : ∀ g', VRs g' b items.toList → VRs g' r' (slicePick items lo' hi' none).toList := fun g' z => by
        rw [slicePick_plain]
        simp only [hz]
        rw [← hcut]
        exact (z.drop _).take _
      refine fin.made (tk := s.toks) st kp2 ⟨_, _, _, 0, rfl, st.I.grown_new (Heap.get?_push_size _ rfl) ?_, rfl, rfl, key _ (z.mono (st.I.grown_le kp2))⟩
      cases e : s.heap.get? (s.heap.push { cls := .type "slice", data := .fields #[l, h, .none] }).objs.size with
      | none => rfl
      | some o' => exact absurd (Heap.lt_size (kp _ _ e)) (Nat.lt_irrefl _)
    · cases hx
  · cases hx
end
end Mine
end

section
open PySem PySem.W PyProof.Rows
set_option maxRecDepth 100000
namespace Mine

theorem opt_some {α : Type} {x : Option α} {σ σ' : List TO} {r : Ex α} (h : opt x σ = some (r, σ')) : ∃ a, x = some a ∧ r = .ok a ∧ σ' = σ := by
  simp only [opt, Option.map_eq_some_iff, Prod.mk.injEq] at h
  obtain ⟨a, e, rfl, rfl⟩ := h
  exact ⟨a, e, rfl, rfl⟩
theorem ret_some {α : Type} {a : α} {σ σ' : List TO} {r : Ex α} (h : ret a σ = some (r, σ')) : r = .ok a ∧ σ' = σ := by
  simp only [ret, Option.some.injEq, Prod.mk.injEq] at h
  exact ⟨h.1.symm, h.2.symm⟩

noncomputable abbrev BR (_ : Gh) (b : Bool) (v : Bool) : Prop := v = b

section
variable {prog : Program} {w : World} {K : Frag} {p : Program} {loose : List Str} {mean : ExcName → Option Value} {mg mb : Str → Option Value} {g₀ : Heap} {c : Cx} {fr : List Fm} {d : Nat} {m : Lo}

theorem wpS_release {A : Around} {vs keep : List Value} {Q : Unit → Shared → Prop} {E : Value → Shared → Prop} {s : Shared} (h : Q () s) : wpS (model prog w) A (release vs keep) Q E s := fun Γ p _ _ => by
  rw [Sem.wp_release]; exact h

theorem sub_const {v : AV} {k : Const} (h : cConst k = some v) (e₁ : Nat) (pos : Pos) : Sub prog w VR g₀ c fr d m (eval (.Constant k e₁ pos) c.env) (fun σ => ret v σ) := by
  intro σ r σ' g mm s Q E hx st fin
  obtain ⟨rfl, rfl⟩ := ret_some hx
  unfold cConst at h
  split at h <;> cases h
  · exact wpS.of (wpAny_Constant_none (fin.pure (tk := s.toks) st rfl))
  · exact wpS.of (wpAny_Constant_bool (fin.pure (tk := s.toks) st rfl))
  · exact wpS.of (wpAny_Constant_int (fin.pure st ⟨_, rfl⟩))
  · exact wpS.of (wpAny_Constant_str (fin.pure st ⟨s.toks, by simp⟩))
  · exact wpS.of (Constant_bytes (fin.pure st ⟨_, rfl⟩))

theorem sub_var {x : Str} {k : Nat} {pos : Pos} (C : CxOk c) (hx : c.sc.names.lookup x = some .local) (hd : x ≠ Str.ofString "__debug__") (hk : c.locs.findIdx? (· == x) = some k) :
    Sub prog w VR g₀ c fr d m (eval (.Name x pos) c.env) (fun σ => match m[k]? with | some (some v) => ret v σ | _ => none) := by
  intro σ r σ' g mm s Q E h st fin
  have hl : c.locs[k]? = some x := by
    obtain ⟨h1, h2, _⟩ := List.findIdx?_eq_some_iff_getElem.mp hk
    rw [List.getElem?_eq_getElem h1, eq_of_beq h2]
  dsimp only at h
  split at h
  · rename_i v hv
    obtain ⟨rfl, rfl⟩ := ret_some h
    obtain ⟨u, hu, q⟩ := st.M k x v hl hv
    exact wpS.of (name_local C st hx hd hu (fin.pure (tk := s.toks) st q))
  · cases h
theorem sub_glob {x : Str} {v : Value} {pos : Pos} (O : TopOk K p loose mean mg mb g₀) (C : CxOk c) (hx : c.sc.names.lookup x = some .globalImplicit) (hd : x ≠ Str.ofString "__debug__") (hv : globV K x = some v) :
    Sub prog w VR g₀ c fr d m (eval (.Name x pos) c.env) (fun σ => ret (toAV v) σ) := by
  intro σ r σ' g mm s Q E h st fin
  obtain ⟨rfl, rfl⟩ := ret_some h
  exact wpS.of (name_global O C st hx hd hv (fin.pure (tk := s.toks) st (VR.toAV v)))

theorem sub_bin {l r : Expr} {op : Operator} {k : BK} {pos : Pos} {xa xb : List TO → R AV} (ha : Sub prog w VR g₀ c fr d m (eval l c.env) xa) (hb : Sub prog w VR g₀ c fr d m (eval r c.env) xb) (hk : cBin op = some k) :
    Sub prog w VR g₀ c fr d m (eval (.BinOp l op r pos) c.env) (fun σ => bnd (xa σ) fun a σ => bnd (xb σ) fun b σ => opt (binA k a b) σ) := by
  intro σ r σ' g mm s Q E hx st fin
  rw [arm_eval_BinOp]
  refine wpS_bind (ha.then hx st fin fun a u σ₁ g₁ h₁ tk hx k1 st₁ ra fin₁ => ?_)
  refine wpS_bind (wpS_holding (hb.then hx st₁ fin₁ fun b v σ₂ g₂ h₂ tk₂ hx k2 st₂ rb fin₂ => ?_))
  obtain ⟨a', h', rfl, rfl⟩ := opt_some hx
  exact wpS_stand (wpS_operate (wpS.of (bin_ok hk h' (ra.mono k2) rb st₂ fin₂)))

/-- -k of a number -/
theorem sub_neg {i : Int} {e₁ : Nat} {pos pos' : Pos} : Sub prog w VR g₀ c fr d m (eval (.UnaryOp .USub (.Constant (.int i) e₁ pos) pos') c.env) (fun σ => ret (.int (-i)) σ) := by
  intro σ r σ' g mm s Q E h st fin
  obtain ⟨rfl, rfl⟩ := ret_some h
  refine wpS.of (wpAny_UnaryOp (wpAny_Constant_int ?_))
  exact neg_int (fin.pure st ⟨_, rfl⟩)

theorem hu_of {σ : List TO} {g : Gh} {mm : Str → Option Value} {h : Heap} (st : St g₀ c fr d m σ g mm h) : c.A.units + 64 < cLine := by
  have := st.R.2; omega

theorem sub_cmp {l r : Expr} {op : CmpOp} {k : CK} {pos : Pos} {xa xb : List TO → R AV} (X : K.In g₀) (ha : Sub prog w VR g₀ c fr d m (eval l c.env) xa) (hb : Sub prog w VR g₀ c fr d m (eval r c.env) xb) (hk : cCmp op = some k) (hm : behindInMarks op r = false) :
    Sub prog w VR g₀ c fr d m (eval (.Compare l [op] [r] pos) c.env) (fun σ => bnd (xa σ) fun a σ => bnd (xb σ) fun b σ => opt ((cmpA K σ k a b).map .bool) σ) := by
  intro σ r' σ' g mm s Q E hx st fin
  rw [arm_eval_Compare]
  refine wpS_bind (ha.then hx st fin fun a u σ₁ g₁ h₁ tk hx k1 st₁ ra fin₁ => ?_)
  show wpS _ _ (do let rv ← holding [u] (markedBehindIn op r (eval r c.env)); standAt pos; operate [u, rv] (compareOp op u rv)) _ _ _
  rw [markedBehindIn_of_false hm]
  refine wpS_bind (wpS_holding (hb.then hx st₁ fin₁ fun b v σ₂ g₂ h₂ tk₂ hx k2 st₂ rb fin₂ => ?_))
  obtain ⟨a', h', rfl, rfl⟩ := opt_some hx
  simp only [Option.map_eq_some_iff] at h'
  obtain ⟨b', h', rfl⟩ := h'
  exact wpS_stand (wpS_operate (wpS.of (cmp_ok X st₂.I (hu_of st₂) (ra.mono k2) rb hk h' (fin₂.pure (tk := tk₂) st₂ rfl))))
/-- the same as a test -/
theorem test_cmp {l r : Expr} {op : CmpOp} {k : CK} {pos : Pos} {whole : Sem Value} {xa xb : List TO → R AV} (X : K.In g₀) (ha : Sub prog w VR g₀ c fr d m (eval l c.env) xa) (hb : Sub prog w VR g₀ c fr d m (eval r c.env) xb) (hk : cCmp op = some k) (hm : behindInMarks op r = false) :
    Sub prog w BR g₀ c fr d m (isTrue (.Compare l [op] [r] pos) c.env whole) (fun σ => bnd (xa σ) fun a σ => bnd (xb σ) fun b σ => opt (cmpA K σ k a b) σ) := by
  intro σ r' σ' g mm s Q E hx st fin
  rw [arm_isTrue_Compare]
  refine wpS_bind (ha.then hx st fin fun a u σ₁ g₁ h₁ tk hx k1 st₁ ra fin₁ => ?_)
  show wpS _ _ (do let rv ← holding [u] (markedBehindIn op r (eval r c.env)); standAt pos; let c ← operate [u, rv] (compareOp op u rv); holding [c] (truthy c)) _ _ _
  rw [markedBehindIn_of_false hm]
  refine wpS_bind (wpS_holding (hb.then hx st₁ fin₁ fun b v σ₂ g₂ h₂ tk₂ hx k2 st₂ rb fin₂ => ?_))
  obtain ⟨a', h', rfl, rfl⟩ := opt_some hx
  exact wpS_stand (wpS_bind (wpS_operate (wpS.of (cmp_ok X st₂.I (hu_of st₂) (ra.mono k2) rb hk h' (wpS_holding (wpS.of (wpAny_truthy_bool (fin₂.pure (tk := tk₂) st₂ rfl))))))))

theorem sub_cmp2 {l r r' : Expr} {op op' : CmpOp} {k k' : CK} {pos : Pos} {xa xb xc : List TO → R AV} (X : K.In g₀) (ha : Sub prog w VR g₀ c fr d m (eval l c.env) xa) (hb : Sub prog w VR g₀ c fr d m (eval r c.env) xb) (hc : Sub prog w VR g₀ c fr d m (eval r' c.env) xc)
    (hk : cCmp op = some k) (hk' : cCmp op' = some k') (hm : behindInMarks op' r' = false) :
    Sub prog w VR g₀ c fr d m (eval (.Compare l [op, op'] [r, r'] pos) c.env) (fun σ => bnd (xa σ) fun a σ => bnd (xb σ) fun b σ => match cmpA K σ k a b with
      | some true => bnd (xc σ) fun c σ => opt ((cmpA K σ k' b c).map .bool) σ
      | some false => ret (.bool false) σ
      | none => none) := by
  intro σ q σ' g mm s Q E hx st fin
  rw [arm_eval_Compare]
  refine wpS_bind (ha.then hx st fin fun a u σ₁ g₁ h₁ tk hx k1 st₁ ra fin₁ => ?_)
  show wpS _ _ (do
    let rv ← holding [u] (eval r c.env)
    standAt pos
    let c' ← holding [u, rv] (compareOp op u rv)
    release [u, rv] [c']
    if ← holding [c', rv] (truthy c') then (do
      let rv' ← holding [rv] (markedBehindIn op' r' (eval r' c.env))
      standAt pos
      operate [rv, rv'] (compareOp op' rv rv')) else pure c') _ _ _
  rw [markedBehindIn_of_false hm]
  refine wpS_bind (wpS_holding (hb.then hx st₁ fin₁ fun b v σ₂ g₂ h₂ tk₂ hx k2 st₂ rb fin₂ => ?_))
  refine wpS_stand ?_
  split at hx
  · rename_i e
    refine wpS_bind (wpS_holding (wpS.of (cmp_ok X st₂.I (hu_of st₂) (ra.mono k2) rb hk e ?_)))
    refine wpS_bind (wpS_release (wpS_bind (wpS_holding (wpS.of (wpAny_truthy_bool ?_)))))
    simp only [if_true]
    refine wpS_bind (wpS_holding (hc.then hx st₂ fin₂ fun b' v' σ₃ g₃ h₃ tk₃ hx k3 st₃ rc fin₃ => ?_))
    obtain ⟨a', h', rfl, rfl⟩ := opt_some hx
    simp only [Option.map_eq_some_iff] at h'
    obtain ⟨b', h', rfl⟩ := h'
    exact wpS_stand (wpS_operate (wpS.of (cmp_ok X st₃.I (hu_of st₃) (rb.mono k3) rc hk' h' (fin₃.pure (tk := tk₃) st₃ rfl))))
  · rename_i e
    obtain ⟨rfl, rfl⟩ := ret_some hx
    refine wpS_bind (wpS_holding (wpS.of (cmp_ok X st₂.I (hu_of st₂) (ra.mono k2) rb hk e ?_)))
    refine wpS_bind (wpS_release (wpS_bind (wpS_holding (wpS.of (wpAny_truthy_bool ?_)))))
    simp only [Bool.false_eq_true, if_false]
    exact wpS_pure (fin₂.pure (tk := tk₂) st₂ rfl)
  · cases hx
theorem test_cmp2 {l r r' : Expr} {op op' : CmpOp} {k k' : CK} {pos : Pos} {whole : Sem Value} {xa xb xc : List TO → R AV} (X : K.In g₀) (ha : Sub prog w VR g₀ c fr d m (eval l c.env) xa) (hb : Sub prog w VR g₀ c fr d m (eval r c.env) xb) (hc : Sub prog w VR g₀ c fr d m (eval r' c.env) xc)
    (hk : cCmp op = some k) (hk' : cCmp op' = some k') (hm : behindInMarks op' r' = false) :
    Sub prog w BR g₀ c fr d m (isTrue (.Compare l [op, op'] [r, r'] pos) c.env whole) (fun σ => bnd (xa σ) fun a σ => bnd (xb σ) fun b σ => match cmpA K σ k a b with
      | some true => bnd (xc σ) fun c σ => opt (cmpA K σ k' b c) σ
      | some false => ret false σ
      | none => none) := by
  intro σ q σ' g mm s Q E hx st fin
  rw [arm_isTrue_Compare]
  refine wpS_bind (ha.then hx st fin fun a u σ₁ g₁ h₁ tk hx k1 st₁ ra fin₁ => ?_)
  show wpS _ _ (do
    let rv ← holding [u] (eval r c.env)
    standAt pos
    let c' ← holding [u, rv] (compareOp op u rv)
    release [u, rv] [c']
    if ← holding [c', rv] (truthy c') then (do
      let rv' ← holding [rv] (markedBehindIn op' r' (eval r' c.env))
      standAt pos
      let c ← operate [rv, rv'] (compareOp op' rv rv')
      holding [c] (truthy c)) else pure false) _ _ _
  rw [markedBehindIn_of_false hm]
  refine wpS_bind (wpS_holding (hb.then hx st₁ fin₁ fun b v σ₂ g₂ h₂ tk₂ hx k2 st₂ rb fin₂ => ?_))
  refine wpS_stand ?_
  split at hx
  · rename_i e
    refine wpS_bind (wpS_holding (wpS.of (cmp_ok X st₂.I (hu_of st₂) (ra.mono k2) rb hk e ?_)))
    refine wpS_bind (wpS_release (wpS_bind (wpS_holding (wpS.of (wpAny_truthy_bool ?_)))))
    simp only [if_true]
    refine wpS_bind (wpS_holding (hc.then hx st₂ fin₂ fun b' v' σ₃ g₃ h₃ tk₃ hx k3 st₃ rc fin₃ => ?_))
    obtain ⟨a', h', rfl, rfl⟩ := opt_some hx
    exact wpS_stand (wpS_bind (wpS_operate (wpS.of (cmp_ok X st₃.I (hu_of st₃) (rb.mono k3) rc hk' h' (wpS_holding (wpS.of (wpAny_truthy_bool (fin₃.pure (tk := tk₃) st₃ rfl))))))))
  · rename_i e
    obtain ⟨rfl, rfl⟩ := ret_some hx
    refine wpS_bind (wpS_holding (wpS.of (cmp_ok X st₂.I (hu_of st₂) (ra.mono k2) rb hk e ?_)))
    refine wpS_bind (wpS_release (wpS_bind (wpS_holding (wpS.of (wpAny_truthy_bool ?_)))))
    simp only [Bool.false_eq_true, if_false]
    exact wpS_pure (fin₂.pure (tk := tk₂) st₂ rfl)
  · cases hx
end
end Mine
end

section
open PySem PySem.W PyProof.Rows
set_option maxRecDepth 100000
namespace Mine

noncomputable abbrev asB (v : AV) (σ : List TO) : R Bool := match v with
  | .bool b => ret b σ
  | _ => none
theorem asB_some {v : AV} {σ σ' : List TO} {r : Ex Bool} (h : asB v σ = some (r, σ')) : ∃ b, v = .bool b ∧ r = .ok b ∧ σ' = σ := by
  unfold asB at h
  split at h
  · obtain ⟨a, b⟩ := ret_some h
    exact ⟨_, rfl, a, b⟩
  · cases h

theorem get_size (h : Heap) : h.get? h.objs.size = none := by
  cases e : h.get? h.objs.size with
  | none => rfl
  | some o => exact absurd (Heap.lt_size e) (Nat.lt_irrefl _)
theorem Inv.size_le {g₀ : Heap} {g : Gh} {p : Fm} {fr : List Fm} {σ : List TO} {h : Heap} (I : Inv g₀ g (p :: fr) σ h) : g₀.objs.size ≤ h.objs.size := by
  have h1 := (I.fs _ (.head _)).2.2
  obtain ⟨o, ho, _⟩ := (I.fs _ (.head _)).1
  exact Nat.le_trans h1 (Nat.le_of_lt (Heap.lt_size ho))
theorem Inv.track_bare {g₀ : Heap} {g : Gh} {fr : List Fm} {σ : List TO} {h h' : Heap} {a : Addr} {n : Nat} (I : Inv g₀ g fr σ h) (k : ∀ b o, h.get? b = some o → h'.get? b = some o) (hn : h.get? a = none) :
    g.bare.le ((g.grown fr h').track n a).bare := by
  refine ⟨fun b o e => ?_, fun _ _ e => nomatch e⟩
  have hb : b ≠ a := fun q => by
    have z := I.fz b o e
    rw [q, hn] at z; cases z
  show (if b = a then none else (g.grown fr h').frz b) = some o
  rw [if_neg hb]
  exact (I.grown_le k).1 b o e

/-- a compiled expression is no starred one and no display of a set -/
theorem cE_plain {K : Frag} {n : Nat} {locs : List Str} {sc : Scope} {e : Expr} {ie : IE} (h : cE K n locs sc e = some ie) : (∀ rest env, starEach (e :: rest) env = (false, eval e env) :: starEach rest env) ∧ ∀ op, behindInMarks op e = false := by
  cases n with
  | zero => simp [cE] at h
  | succ n => cases e <;> first | exact ⟨fun _ _ => rfl, fun _ => rfl⟩ | (exfalso; simp [cE] at h)

section
variable {prog : Program} {w : World} {K : Frag} {p : Program} {loose : List Str} {mean : ExcName → Option Value} {mg mb : Str → Option Value} {g₀ : Heap} {c : Cx} {fr : List Fm} {d : Nat} {m : Lo}

theorem sub_items_nil {pos : Pos} : Sub prog w VRs g₀ c fr d m (spliced (backTo pos (starEach [] c.env))) (fun σ => ret [] σ) := by
  intro σ r σ' g mm s Q E hx st fin
  obtain ⟨rfl, rfl⟩ := ret_some hx
  exact wpS_pure (fin.pure (tk := s.toks) st VRs.nil)
theorem sub_items_cons {pos : Pos} {e : Expr} {rest : List Expr} {xa : List TO → R AV} {xr : List TO → R (List AV)} (he : ∀ rest env, starEach (e :: rest) env = (false, eval e env) :: starEach rest env)
    (ha : Sub prog w VR g₀ c fr d m (eval e c.env) xa) (hr : Sub prog w VRs g₀ c fr d m (spliced (backTo pos (starEach rest c.env))) xr) :
    Sub prog w VRs g₀ c fr d m (spliced (backTo pos (starEach (e :: rest) c.env))) (fun σ => bnd (xa σ) fun v σ => bnd (xr σ) fun vs σ => ret (v :: vs) σ) := by
  intro σ r σ' g mm s Q E hx st fin
  rw [he]
  show wpS _ _ (do
    let v ← eval e c.env
    let here ← (pure [v] : Sem (List Value))
    return here ++ (← holding here (spliced (backTo pos (starEach rest c.env))))) _ _ _
  refine wpS_bind (ha.then hx st fin fun a u σ₁ g₁ h₁ tk hx k1 st₁ ra fin₁ => ?_)
  refine wpS_bind (wpS_pure (wpS_bind (wpS_holding (hr.then hx st₁ fin₁ fun b v σ₂ g₂ h₂ tk₂ hx k2 st₂ rb fin₂ => ?_))))
  obtain ⟨rfl, rfl⟩ := ret_some hx
  exact wpS_pure (fin₂.pure (tk := tk₂) st₂ (VRs.cons (ra.mono k2) rb))

theorem sub_tup {pos : Pos} {k : Nat} {es : List Expr} {xr : List TO → R (List AV)} (hr : Sub prog w VRs g₀ c fr d m (spliced (backTo pos (starEach es c.env))) xr) :
    Sub prog w VR g₀ c fr d m (eval (.Tuple es k pos) c.env) (fun σ => bnd (xr σ) fun vs σ => if vs.length ≤ 100 then ret (.tup vs) σ else none) := by
  intro σ r σ' g mm s Q E hx st fin
  rw [arm_eval_Tuple]
  refine wpS_stand (wpS_bind (hr.then hx st fin fun vs us σ₁ g₁ h₁ tk hx k1 st₁ ra fin₁ => ?_))
  split at hx
  · rename_i hl
    obtain ⟨rfl, rfl⟩ := ret_some hx
    refine wpS.of (wpAny_newTuple (fin₁.made (tk := tk) st₁ (fun b o e => Heap.get?_push_of_some _ e) ?_) ?_)
    · exact ⟨_, us.toArray, 0, rfl, st₁.I.grown_new (Heap.get?_push_size _ rfl) (get_size _), by simpa using ra.mono (st₁.I.grown_le fun b o e => Heap.get?_push_of_some _ e)⟩
    · rw [sizeLine_eq, ra.length]; omega
  · cases hx

theorem sub_list {pos : Pos} {es : List Expr} {xr : List TO → R (List AV)} (hr : Sub prog w VRs g₀ c fr d m (spliced (backTo pos (starEach es c.env))) xr) :
    Sub prog w VR g₀ c fr d m (eval (.List es pos) c.env) (fun σ => bnd (xr σ) fun vs σ => if AV.frees vs && vs.length ≤ 100 then mk (.list vs) σ else none) := by
  intro σ r σ' g mm s Q E hx st fin
  rw [arm_eval_List]
  refine wpS_stand (wpS_bind (hr.then hx st fin fun vs us σ₁ g₁ h₁ tk hx k1 st₁ ra fin₁ => ?_))
  split at hx
  · rename_i hl
    simp only [Bool.and_eq_true, decide_eq_true_eq] at hl
    simp only [mk, Option.some.injEq, Prod.mk.injEq] at hx
    obtain ⟨rfl, rfl⟩ := hx
    have kp : ∀ b o', h₁.get? b = some o' → (h₁.push (lstObj us.toArray 0)).get? b = some o' := fun b o e => Heap.get?_push_of_some _ e
    have hT := st₁.I.track (t := .list vs) kp (get_size _) st₁.I.size_le ⟨us.toArray, 0, Heap.get?_push_size _ rfl, by
      simpa using VRs.mono (st₁.I.track_bare kp (get_size _)) (VRs.bare hl.1 ra)⟩
    refine wpS.of (wpAny_newList (fin₁.ok _ rfl _ _ _ tk hT.1 hT.2 ⟨_, rfl, by simp [Gh.track]⟩) ?_)
    rw [sizeLine_eq, ra.length]; omega
  · cases hx

theorem sub_none : Sub prog w OptR g₀ c fr d m (valueOrNone (evalOpt none c.env)) (fun σ => ret none σ) := by
  intro σ r σ' g mm s Q E hx st fin
  obtain ⟨rfl, rfl⟩ := ret_some hx
  exact wpS_pure (fin.pure (tk := s.toks) st rfl)
theorem sub_some {e : Expr} {xa : List TO → R AV} (ha : Sub prog w VR g₀ c fr d m (eval e c.env) xa) : Sub prog w OptR g₀ c fr d m (valueOrNone (evalOpt (some e) c.env)) (fun σ => bnd (xa σ) fun v σ => ret (some v) σ) := by
  intro σ r σ' g mm s Q E hx st fin
  show wpS _ _ (eval e c.env) _ _ _
  refine ha.then hx st fin fun a u σ₁ g₁ h₁ tk hx k1 st₁ ra fin₁ => ?_
  obtain ⟨rfl, rfl⟩ := ret_some hx
  exact fin₁.pure (tk := tk) st₁ ra

theorem sub_not {x : Expr} {pos : Pos} {xa : List TO → R AV} (ha : Sub prog w VR g₀ c fr d m (eval x c.env) xa) : Sub prog w VR g₀ c fr d m (eval (.UnaryOp .Not x pos) c.env) (fun σ => bnd (bnd (xa σ) asB) fun b σ => ret (.bool (!b)) σ) := by
  intro σ r σ' g mm s Q E hx st fin
  rw [arm_eval_UnaryOp]
  rcases bnd_split hx with ⟨b, σ₁, h1, h2⟩ | ⟨i, h1, rfl⟩
  · obtain ⟨rfl, rfl⟩ := ret_some h2
    rcases bnd_split h1 with ⟨v, σ₂, h3, h4⟩ | ⟨i, h3, q⟩
    · obtain ⟨b', rfl, q, rfl⟩ := asB_some h4
      cases q
      refine wpS_bind (ha h3 st ⟨fun a e v g' h' tk l I q => ?_, fun _ e => nomatch e⟩)
      cases e
      rw [show v = .bool b from q]
      exact wpS_stand (wpS_holding (wpS.of (not_value (wpAny_truthy_bool (fin.ok _ rfl _ g' h' tk l I rfl)))))
    · cases q
  · rcases bnd_split h1 with ⟨v, σ₂, h3, h4⟩ | ⟨j, h3, q⟩
    · obtain ⟨b', rfl, q, rfl⟩ := asB_some h4
      cases q
    · cases q
      exact wpS_bind (ha h3 st ⟨fun a e => (nomatch e), fun j e => fin.ex j (by cases e; rfl)⟩)

theorem sub_ite {t a b : Expr} {pos : Pos} {xt : List TO → R Bool} {xa xb : List TO → R AV} (ht : Sub prog w BR g₀ c fr d m (isTrue t c.env (eval t c.env)) xt) (ha : Sub prog w VR g₀ c fr d m (eval a c.env) xa) (hb : Sub prog w VR g₀ c fr d m (eval b c.env) xb) :
    Sub prog w VR g₀ c fr d m (eval (.IfExp t a b pos) c.env) (fun σ => bnd (xt σ) fun t σ => if t then xa σ else xb σ) := by
  intro σ r σ' g mm s Q E hx st fin
  rw [arm_eval_IfExp]
  refine wpS_bind (ht.then hx st fin fun b u σ₁ g₁ h₁ tk hx k1 st₁ ra fin₁ => ?_)
  cases ra
  cases b
  · exact hb hx st₁ fin₁
  · exact ha hx st₁ fin₁
theorem test_ite {t a b : Expr} {pos : Pos} {whole : Sem Value} {xt xa xb : List TO → R Bool} (ht : Sub prog w BR g₀ c fr d m (isTrue t c.env (eval t c.env)) xt) (ha : Sub prog w BR g₀ c fr d m (isTrue a c.env (eval a c.env)) xa) (hb : Sub prog w BR g₀ c fr d m (isTrue b c.env (eval b c.env)) xb) :
    Sub prog w BR g₀ c fr d m (isTrue (.IfExp t a b pos) c.env whole) (fun σ => bnd (xt σ) fun t σ => if t then xa σ else xb σ) := by
  intro σ r σ' g mm s Q E hx st fin
  rw [arm_isTrue_IfExp]
  refine wpS_bind (ht.then hx st fin fun b u σ₁ g₁ h₁ tk hx k1 st₁ ra fin₁ => ?_)
  cases ra
  cases b
  · exact hb hx st₁ fin₁
  · exact ha hx st₁ fin₁
theorem test_not {x : Expr} {pos : Pos} {whole : Sem Value} {xt : List TO → R Bool} (ht : Sub prog w BR g₀ c fr d m (isTrue x c.env (eval x c.env)) xt) :
    Sub prog w BR g₀ c fr d m (isTrue (.UnaryOp .Not x pos) c.env whole) (fun σ => bnd (xt σ) fun b σ => ret (!b) σ) := by
  intro σ r σ' g mm s Q E hx st fin
  rw [arm_isTrue_UnaryOp]
  refine wpS_bind (ht.then hx st fin fun b u σ₁ g₁ h₁ tk hx k1 st₁ ra fin₁ => ?_)
  cases ra
  obtain ⟨rfl, rfl⟩ := ret_some hx
  exact wpS_pure (fin₁.pure (tk := tk) st₁ rfl)
/-- a plain value as a test -/
theorem test_value {e : Expr} {xa : List TO → R AV} (ha : Sub prog w VR g₀ c fr d m (eval e c.env) xa) (he : isTrue e c.env (eval e c.env) = (do let v ← eval e c.env; standAt e.pos; holding [v] (truthy v))) :
    Sub prog w BR g₀ c fr d m (isTrue e c.env (eval e c.env)) (fun σ => bnd (xa σ) asB) := by
  intro σ r σ' g mm s Q E hx st fin
  rw [he]
  refine wpS_bind (ha.then hx st fin fun b u σ₁ g₁ h₁ tk hx k1 st₁ ra fin₁ => ?_)
  obtain ⟨b', rfl, rfl, rfl⟩ := asB_some hx
  rw [show u = .bool b' from ra]
  exact wpS_stand (wpS_holding (wpS.of (wpAny_truthy_bool (fin₁.pure (tk := tk) st₁ rfl))))

theorem sub_allTrue_nil {op : BoolOp} : Sub prog w BR g₀ c fr d m (allTrue op [] c.env) (fun σ => ret (op == .And) σ) := by
  intro σ r σ' g mm s Q E hx st fin
  obtain ⟨rfl, rfl⟩ := ret_some hx
  exact wpS_pure (fin.pure (tk := s.toks) st rfl)
theorem sub_allTrue_cons {op : BoolOp} {x : Expr} {rest : List Expr} {xt xr : List TO → R Bool} (ht : Sub prog w BR g₀ c fr d m (isTrue x c.env (eval x c.env)) xt) (hr : Sub prog w BR g₀ c fr d m (allTrue op rest c.env) xr) :
    Sub prog w BR g₀ c fr d m (allTrue op (x :: rest) c.env) (fun σ => bnd (xt σ) fun b σ => if b = (op == .And) then xr σ else ret (!(op == .And)) σ) := by
  intro σ r σ' g mm s Q E hx st fin
  rw [arm_allTrue_cons]
  refine wpS_bind (ht.then hx st fin fun b u σ₁ g₁ h₁ tk hx k1 st₁ ra fin₁ => ?_)
  cases ra
  cases op <;> cases b
  · obtain ⟨rfl, rfl⟩ := ret_some (a := false) hx
    exact wpS_pure (fin₁.pure (tk := tk) st₁ rfl)
  · exact hr hx st₁ fin₁
  · exact hr hx st₁ fin₁
  · obtain ⟨rfl, rfl⟩ := ret_some (a := true) hx
    exact wpS_pure (fin₁.pure (tk := tk) st₁ rfl)
theorem test_bool {op : BoolOp} {es : List Expr} {pos : Pos} {whole : Sem Value} {x : List TO → R Bool} (h : Sub prog w BR g₀ c fr d m (allTrue op es c.env) x) : Sub prog w BR g₀ c fr d m (isTrue (.BoolOp op es pos) c.env whole) x := by
  intro σ r σ' g mm s Q E hx st fin
  rw [arm_isTrue_BoolOp]; exact h hx st fin

/-- the value of and, or -/
theorem sub_boolOp_one {op : BoolOp} {e : Expr} {pos : Pos} {xa : List TO → R AV} (ha : Sub prog w VR g₀ c fr d m (eval e c.env) xa) :
    Sub prog w VR g₀ c fr d m (boolOp pos op (evalEach [e] c.env)) (fun σ => bnd (bnd (bnd (xa σ) asB) fun b σ => if b = (op == .And) then ret (op == .And) σ else ret (!(op == .And)) σ) fun b σ => ret (.bool b) σ) := by
  intro σ r σ' g mm s Q E hx st fin
  dsimp only at hx
  show wpS _ _ (eval e c.env) _ _ _
  have key : bnd (xa σ) (fun v σ => bnd (asB v σ) fun b σ => ret (.bool b) σ) = some (r, σ') := by
    cases hxa : xa σ with
    | none => rw [hxa] at hx; cases hx
    | some q =>
      obtain ⟨q1, σ₁⟩ := q
      rw [hxa] at hx
      cases q1 with
      | exc i => exact hx
      | ok v =>
        simp only [bnd] at hx ⊢
        cases v with
        | bool b => cases op <;> cases b <;> exact hx
        | _ => cases hx
  refine ha.then key st fin fun b u σ₁ g₁ h₁ tk hx k1 st₁ ra fin₁ => ?_
  rcases bnd_split hx with ⟨b', σ₂, h1, h2⟩ | ⟨i, h1, rfl⟩
  · obtain ⟨b'', rfl, q, rfl⟩ := asB_some h1
    cases q
    obtain ⟨rfl, rfl⟩ := ret_some h2
    exact fin₁.pure (tk := tk) st₁ ra
  · obtain ⟨b'', rfl, q, rfl⟩ := asB_some h1
    cases q
theorem sub_boolOp_cons {op : BoolOp} {e e' : Expr} {rest : List Expr} {pos : Pos} {xa : List TO → R AV} {xr : List TO → R Bool} (ha : Sub prog w VR g₀ c fr d m (eval e c.env) xa)
    (hr : Sub prog w VR g₀ c fr d m (boolOp pos op (evalEach (e' :: rest) c.env)) (fun σ => bnd (xr σ) fun b σ => ret (.bool b) σ)) :
    Sub prog w VR g₀ c fr d m (boolOp pos op (evalEach (e :: e' :: rest) c.env)) (fun σ => bnd (bnd (bnd (xa σ) asB) fun b σ => if b = (op == .And) then xr σ else ret (!(op == .And)) σ) fun b σ => ret (.bool b) σ) := by
  intro σ r σ' g mm s Q E hx st fin
  dsimp only at hx
  show wpS _ _ (do
    let v ← eval e c.env
    standAt pos
    let t ← holding [v] (truthy v)
    match op, t with
    | .And, false | .Or, true => pure v
    | _, _ => boolOp pos op (evalEach (e' :: rest) c.env)) _ _ _
  have key : bnd (xa σ) (fun v σ => bnd (asB v σ) fun b σ => bnd (if b = (op == .And) then xr σ else ret (!(op == .And)) σ) fun b σ => ret (.bool b) σ) = some (r, σ') := by
    cases hxa : xa σ with
    | none => rw [hxa] at hx; cases hx
    | some q =>
      obtain ⟨q1, σ₁⟩ := q
      rw [hxa] at hx
      cases q1 with
      | exc i => exact hx
      | ok v =>
        simp only [bnd] at hx ⊢
        cases v with
        | bool b => exact hx
        | _ => cases hx
  refine wpS_bind (ha.then key st fin fun b u σ₁ g₁ h₁ tk hx k1 st₁ ra fin₁ => ?_)
  rcases bnd_split hx with ⟨b', σ₂, h1, h2⟩ | ⟨i, h1, rfl⟩
  · obtain ⟨b'', rfl, q, rfl⟩ := asB_some h1
    cases q
    rw [show u = .bool b' from ra]
    refine wpS_stand (wpS_bind (wpS_holding (wpS.of (wpAny_truthy_bool ?_))))
    cases op <;> cases b'
    · obtain ⟨rfl, rfl⟩ := ret_some (a := AV.bool false) h2
      exact wpS_pure (fin₁.pure (tk := tk) st₁ rfl)
    · exact hr h2 st₁ fin₁
    · exact hr h2 st₁ fin₁
    · obtain ⟨rfl, rfl⟩ := ret_some (a := AV.bool true) h2
      exact wpS_pure (fin₁.pure (tk := tk) st₁ rfl)
  · obtain ⟨b'', rfl, q, rfl⟩ := asB_some h1
    cases q
end
end Mine
end

section
open PySem PySem.W PyProof.Rows
set_option maxRecDepth 100000
namespace Mine
section
variable {prog : Program} {w : World} {K : Frag} {p : Program} {loose : List Str} {mean : ExcName → Option Value} {mg mb : Str → Option Value} {g₀ : Heap} {c : Cx} {fr : List Fm} {d : Nat} {m : Lo}

theorem sub_sub {o i : Expr} {pos : Pos} {xa xb : List TO → R AV} (X : K.In g₀) (ha : Sub prog w VR g₀ c fr d m (eval o c.env) xa) (hb : Sub prog w VR g₀ c fr d m (eval i c.env) xb) :
    Sub prog w VR g₀ c fr d m (eval (.Subscript o i pos) c.env) (fun σ => bnd (xa σ) fun o σ => bnd (xb σ) fun i σ => opt (subA K σ o i) σ) := by
  intro σ r σ' g mm s Q E hx st fin
  rw [arm_eval_Subscript]
  refine wpS_bind (ha.then hx st fin fun a u σ₁ g₁ h₁ tk hx k1 st₁ ra fin₁ => ?_)
  refine wpS_bind (wpS_holding (hb.then hx st₁ fin₁ fun b v σ₂ g₂ h₂ tk₂ hx k2 st₂ rb fin₂ => ?_))
  obtain ⟨a', h', rfl, rfl⟩ := opt_some hx
  exact wpS_stand (wpS.of (sub_ok (value := o) (slice := i) X h' (ra.mono k2) rb st₂ fin₂))

theorem sub_slice {o : Expr} {lo hi : Option Expr} {pos pos' : Pos} {xa : List TO → R AV} {xl xh : List TO → R (Option AV)} (ha : Sub prog w VR g₀ c fr d m (eval o c.env) xa)
    (hl : Sub prog w OptR g₀ c fr d m (valueOrNone (evalOpt lo c.env)) xl) (hh : Sub prog w OptR g₀ c fr d m (valueOrNone (evalOpt hi c.env)) xh) :
    Sub prog w VR g₀ c fr d m (eval (.Subscript o (.Slice lo hi none pos') pos) c.env) (fun σ => bnd (xa σ) fun o σ => bnd (xl σ) fun lo σ => bnd (xh σ) fun hi σ => sliceA σ o lo hi) := by
  intro σ r σ' g mm s Q E hx st fin
  rw [arm_eval_Subscript]
  refine wpS_bind (ha.then hx st fin fun a u σ₁ g₁ h₁ tk hx k1 st₁ ra fin₁ => ?_)
  refine wpS_bind (wpS_holding ?_)
  rw [arm_eval_Slice]
  refine wpS_bind (hl.then hx st₁ fin₁ fun b v σ₂ g₂ h₂ tk₂ hx k2 st₂ rb fin₂ => ?_)
  refine wpS_bind (wpS_holding (hh.then hx st₂ fin₂ fun b' v' σ₃ g₃ h₃ tk₃ hx k3 st₃ rc fin₃ => ?_))
  refine wpS_bind (wpS_holding (wpS_pure (wpS.of (wpAny_newObj_type ?_ (by size_fits)))))
  exact wpS_stand (wpS.of (slice_ok hx (ra.mono (k2.trans k3)) (rb.mono k3) rc st₃ fin₃))
end
end Mine
end

section
open PySem PySem.W PyProof.Rows
set_option maxRecDepth 100000
namespace Mine
section
variable {prog : Program} {w : World} {A : Around} {E : Value → Shared → Prop} {s : Shared}

theorem argsS {f : Value} {args : List (Bool × Sem Value)} {Q : Args → Shared → Prop} (hp : args.any (·.1) = false) (h : wpS (model prog w) A (spliced args) (fun vs s' => Q ⟨vs, []⟩ s') E s) :
    wpS (model prog w) A (evalArgs f true args []) Q E s := by
  have fin : ∀ vs s', Q ⟨vs, []⟩ s' → wpS (model prog w) A (holding (vs ++ (none : Option Value).toList) (do
      let kw := (([] : List (Option Str × Sem Value)).filterMap (·.1)).zip (← evalAll [])
      return ⟨← (pure vs : Sem (List Value)), kw⟩)) Q E s' := fun vs s' q => wpS_holding (wpS_bind (wpS_pure (wpS_bind (wpS_pure (wpS_pure q)))))
  cases args with
  | nil =>
    unfold evalArgs
    show wpS _ _ (spliced [] >>= _) _ _ _
    exact wpS_bind (wpS_q h fun vs s' q => fin vs s' q)
  | cons a r =>
    obtain ⟨b, x⟩ := a
    cases b with
    | true => simp at hp
    | false =>
      unfold evalArgs
      show wpS _ _ (spliced ((false, x) :: r) >>= _) _ _ _
      exact wpS_bind (wpS_q h fun vs s' q => fin vs s' q)

theorem callWithS {pos : Pos} {f : Value} {first : List Value} {args : List (Bool × Sem Value)} {Q : Value → Shared → Prop} (hp : args.any (·.1) = false)
    (h : wpS (model prog w) A (spliced args) (fun vs s₁ => (∃ k, Looks (model prog w) s₁.heap (keeperOf f) k) ∧ wpS (model prog w) A (call f (first ++ vs)) Q E s₁) E s) :
    wpS (model prog w) A (callWith pos f first args []) Q E s := by
  unfold callWith
  refine wpS_bind (wpS_holding (argsS hp (wpS_q h fun vs s₁ q => wpS_stand ?_)))
  obtain ⟨⟨k, hk⟩, q⟩ := q
  simp only [hp, List.any_nil, Bool.or_false]
  refine wpS_bind (wpS.of (hk.here ?_))
  have tail : ∀ {t : Sem Value}, wpS (model prog w) A t Q E s₁ → wpS (model prog w) A (t >>= fun r => holding [r] point >>= fun _ => pure r) Q E s₁ :=
    fun ht => wpS_bind (wpS_q ht fun r s₂ hr => wpS_bind (wpS_holding (wpS_point (wpS_pure hr))))
  have marked (mk : Value) : wpS (model prog w) A (callMarked mk f (first ++ vs) []) Q E s₁ := by unfold callMarked; exact wpS_keep q
  cases k <;> dsimp only
  · split
    · exact tail q
    · exact tail (marked _)
  · split
    · exact tail q
    · exact tail (marked _)
  · exact tail q
  · exact tail (wpS_operate q)

theorem backTo_plain (pos : Pos) : ∀ {l : List (Bool × Sem Value)}, l.any (·.1) = false → (backTo pos l).any (·.1) = false
  | [], _ => rfl
  | (b, x) :: r, h => by
    simp only [List.any_cons, Bool.or_eq_false_iff] at h
    simp only [backTo, List.map_cons, List.any_cons, Bool.or_eq_false_iff]
    exact ⟨h.1, backTo_plain pos h.2⟩
theorem cEs_plain {K : Frag} : ∀ {n : Nat} {locs : List Str} {sc : Scope} {es : List Expr} {ies : List IE}, cEs K n locs sc es = some ies → ∀ env, (starEach es env).any (·.1) = false
  | 0, _, _, _, _, h, _ => by simp [cEs] at h
  | _ + 1, _, _, [], _, _, _ => rfl
  | n + 1, locs, sc, e :: es, ies, h, env => by
    simp only [cEs, Option.bind_eq_some_iff, Option.map_eq_some_iff] at h
    obtain ⟨ie, h1, ies', h2, rfl⟩ := h
    rw [(cE_plain h1).1]
    simp only [List.any_cons, Bool.false_or]
    exact cEs_plain h2 env
end

section
variable {prog : Program} {w : World} {K : Frag} {p : Program} {loose : List Str} {mean : ExcName → Option Value} {mg mb : Str → Option Value} {g₀ : Heap} {c : Cx} {fr : List Fm} {d : Nat} {m : Lo}

/-- a call of what y says -/
noncomputable def CallOk (prog : Program) (w : World) (g₀ : Heap) (c : Cx) (fr : List Fm) (d : Nat) (m : Lo) (y : AV → List AV → List TO → R AV) : Prop :=
  ∀ {f : AV} {as : List AV} {u : Value} {us : List Value} {σ : List TO} {r : Ex AV} {σ' : List TO} {g : Gh} {mm : Str → Option Value} {s : Shared} {Q : Value → Shared → Prop} {E : Value → Shared → Prop}, y f as σ = some (r, σ') → VR g f u → VRs g as us → St g₀ c fr d m σ g mm s.heap → Fin VR g₀ c fr mm r σ' g s Q E →
    (∃ k, Looks (model prog w) s.heap (keeperOf u) k) ∧ wpS (model prog w) c.A (call u us) Q E s

theorem sub_call {x : Str} {np pos : Pos} {es : List Expr} {xf : List TO → R AV} {xs : List TO → R (List AV)} {y : AV → List AV → List TO → R AV} (hes : ∀ env, (starEach es env).any (·.1) = false)
    (hf : Sub prog w VR g₀ c fr d m (eval (.Name x np) c.env) xf) (hs : Sub prog w VRs g₀ c fr d m (spliced (backTo pos (starEach es c.env))) xs) (hy : CallOk prog w g₀ c fr d m y) :
    Sub prog w VR g₀ c fr d m (eval (.Call (.Name x np) es [] pos) c.env) (fun σ => bnd (xf σ) fun f σ => bnd (xs σ) fun as σ => y f as σ) := by
  intro σ r σ' g mm s Q E hx st fin
  show wpS _ _ (do callWith pos (← eval (.Name x np) c.env) [] (backTo pos (starEach es c.env)) []) _ _ _
  refine wpS_bind (hf.then hx st fin fun a u σ₁ g₁ h₁ tk hx k1 st₁ ra fin₁ => ?_)
  refine callWithS (backTo_plain pos (hes _)) (hs.then hx st₁ fin₁ fun b v σ₂ g₂ h₂ tk₂ hx k2 st₂ rb fin₂ => ?_)
  exact hy hx (ra.mono k2) rb st₂ fin₂
end
end Mine
end

section
open PySem PySem.W PyProof.Rows
set_option maxRecDepth 100000
namespace Mine
section
variable {prog : Program} {w : World} {A : Around} {E : Value → Shared → Prop} {s : Shared}

theorem look_bytes_bytes : typeLookup (.type "bytes") "__bytes__" = pure (some (.builtin "bytes.__bytes__")) := by rw [typeLookup_type, builtinLookup_eq_fast]; kernel_rfl
theorem look_barr_bytes : typeLookup (.type "bytearray") "__bytes__" = pure none := by rw [typeLookup_type, builtinLookup_eq_fast]; kernel_rfl
theorem look_barr_index : typeLookup (.type "bytearray") "__index__" = pure none := by rw [typeLookup_type, builtinLookup_eq_fast]; kernel_rfl
theorem look_barr_buffer : typeLookup (.type "bytearray") "__buffer__" = pure (some (.builtin "bytearray.__buffer__")) := by rw [typeLookup_type, builtinLookup_eq_fast]; kernel_rfl
theorem look_barr_release : typeLookup (.type "bytearray") "__release_buffer__" = pure (some (.builtin "bytearray.__release_buffer__")) := by rw [typeLookup_type, builtinLookup_eq_fast]; kernel_rfl

theorem bytes_bytes {b : Array UInt8} {t : Tok} {Q : Value → Shared → Prop} (h : Q (.bytes b t) s) : wpAny (model prog w) A (call (.type "bytes") [.bytes b t]) Q E s := by
  refine callType_codes (Q₁ := fun obj s₁ => s₁.TypeIs obj "bytes" ∧ Q obj s₁) F.bm_called (F.bm_typeCall _) F.entry_object_init ?_ fun obj s₁ h₁ =>
    ⟨h₁.1, F.args_object_init_2 obj _, object_init_meets F.bm_called.init.lookup F.bm_called.made (by decide) prog w A.in1 _ s₁ ⟨h₁.1, rfl, h₁.2⟩⟩
  have hT := typeIs_bytes s b t
  refine codeAny_call_builtin F.bm_plain F.bm_entry (wpAny_of_eq (F.bm_newCall _) ?_)
  unfold Builtin.«bytes.__new__»
  refine wpAny_bind (wpAny_of_eq (a := true) rfl (bm_if_false rfl (wpAny_bind (wpAny_of_eq F.bm_sub (bm_if_false rfl ?_)))))
  refine wpAny_bind (wpAny_of_eq (F.bm_bind _) (wpAny_bind (wpAny_of_eq (a := ()) rfl (wpAny_bind (wpAny_of_eq (a := ()) rfl ?_)))))
  refine bm_if_false rfl (wpAny_bind (wpAny_specialOf hT look_bytes_bytes ?_))
  dsimp only
  refine wpAny_bind (wpAny_rule (wpAny_bind (wpAny_of_eq (a := .type "bytes") rfl ?_)))
  refine bm_if_true (by decide) ?_
  refine bm_if_true (by decide) ?_
  exact wpAny_bind (wpAny_pure (wpAny_pure ⟨hT, h⟩))

theorem sub_barr : isSubtype (.type "bytearray") (.type "bytearray") = pure true := by rw [isSubtype_type]; kernel_rfl
theorem own_of {v : Value} {name : String} {id : String} {Q : Bool → Shared → Prop} (hT : s.TypeIs v "bytearray") (hl : typeLookup (.type "bytearray") (name : Str) = pure (some (.builtin id))) (h1 : id.endsWith ("." ++ name) = true) (h2 : (id.dropRight (name.length + 1)) = "bytearray") (h : Q true s) :
    wpAny (model prog w) A (Builtin.Bytes.slotIsOwn v name) Q E s := by
  unfold Builtin.Bytes.slotIsOwn
  refine wpAny_bind (wpAny_specialOf hT hl ?_)
  dsimp only
  rw [h1, h2]
  exact bm_if_false rfl (wpAny_isInstance hT sub_barr h)
theorem bytes_barr {b : Array UInt8} {a : Addr} {Q : Value → Shared → Prop} (ha : s.heap.get? a = some { cls := .type "bytearray", data := .bytearray b 0 }) (hz : b.size ≤ sizeLine) (h : ∀ t k, Q (.bytes b t) { s with toks := k }) : wpAny (model prog w) A (call (.type "bytes") [.ref a]) Q E s := by
  refine callType_codes (Q₁ := fun obj s₁ => s₁.TypeIs obj "bytes" ∧ Q obj s₁) F.bm_called (F.bm_typeCall _) F.entry_object_init ?_ fun obj s₁ h₁ =>
    ⟨h₁.1, F.args_object_init_2 obj _, object_init_meets F.bm_called.init.lookup F.bm_called.made (by decide) prog w A.in1 _ s₁ ⟨h₁.1, rfl, h₁.2⟩⟩
  have hT : s.TypeIs (.ref a) "bytearray" := ⟨_, ha, rfl⟩
  refine codeAny_call_builtin F.bm_plain F.bm_entry (wpAny_of_eq (F.bm_newCall _) ?_)
  unfold Builtin.«bytes.__new__»
  refine wpAny_bind (wpAny_of_eq (a := true) rfl (bm_if_false rfl (wpAny_bind (wpAny_of_eq F.bm_sub (bm_if_false rfl ?_)))))
  refine wpAny_bind (wpAny_of_eq (F.bm_bind _) (wpAny_bind (wpAny_of_eq (a := ()) rfl (wpAny_bind (wpAny_of_eq (a := ()) rfl ?_)))))
  refine bm_if_false rfl (wpAny_bind (wpAny_specialOf hT look_barr_bytes ?_))
  refine wpAny_bind (wpAny_bind ?_)
  show wpAny _ _ (load a >>= _) _ _ _
  refine wpAny_bind (wpAny_load ha ?_)
  refine wpAny_pure (wpAny_pure ?_)
  refine bm_if_false rfl ?_
  refine wpAny_bind (wpAny_specialOf hT look_barr_index ?_)
  refine bm_if_true rfl ?_
  first
    | show wpAny _ _ (Builtin.Bytes.buffer? "bytes.__new__" (.ref a) true >>= _) _ _ _
    | (refine wpAny_bind ?_; show wpAny _ _ (Builtin.Bytes.buffer? "bytes.__new__" (.ref a) true >>= _) _ _ _)
  refine wpAny_bind ?_
  unfold Builtin.Bytes.buffer?
  refine wpAny_bind (wpAny_specialOf hT look_barr_buffer ?_)
  dsimp only
  refine wpAny_bind (own_of hT look_barr_buffer (by decide +kernel) (by decide +kernel) (bm_if_false rfl ?_))
  refine wpAny_bind (wpAny_specialOf hT look_barr_buffer ?_)
  refine wpAny_bind ?_
  unfold Builtin.Bytes.ownRelease
  refine wpAny_bind (own_of hT look_barr_release (by decide +kernel) (by decide +kernel) (wpAny_pure (bm_if_false rfl ?_)))
  unfold Builtin.Bytes.payload Builtin.Bytes.payload?
  refine wpAny_bind (wpAny_bind (wpAny_bind (wpAny_load ha (wpAny_pure (wpAny_pure (wpAny_pure ?_))))))
  refine wpAny_bind (wpAny_rule ?_)
  refine wpAny_bind (wpAny_mkBytes ?_ hz)
  refine bm_if_true (by decide) ?_
  exact wpAny_bind (wpAny_pure (wpAny_pure ⟨typeIs_bytes _ _ _, h _ _⟩))
end
end Mine
end

section
open PySem PySem.W PyProof.Rows
set_option maxRecDepth 1000000
namespace Mine
section
variable {prog : Program} {w : World} {A : Around} {E : Value → Shared → Prop} {R : Result → Shared → Prop} {s : Shared}

theorem codeS_builtin {id : String} {args : Args} {b : Builtin} (hn : holders.contains id = false) (hb : entryFor table id = some b)
    (h : wpS (model prog w) (A.under (.builtin id args)) (b args) (fun fin s' => match fin with | .done f => R (.ok f) s' | .again c' => c'.quiet = true ∧ codeS (model prog w) A c' R s') (fun e s' => R (.error e) s') s) :
    codeS (model prog w) A (.builtin id args) R s := by
  refine codeS_of_tree (by rw [noHold_b, hn]; rfl) ?_
  show wpS _ _ (match entryFor table id with | some b => b args | none => unsupported ((withoutEnding? id "#data").getD id)) _ _ s
  rw [hb]; exact h
theorem codeS_call_builtin {id : String} {args : Args} {b : Builtin} (hq : plainId id = true) (hn : holders.contains id = false) (hb : entryFor table id = some b)
    (h : wpS (model prog w) A.in1 (checkBuiltinCall id args) (fun _ s₁ => wpS (model prog w) A.in1 (b args) (fun fin s' => match fin with | .done f => R (.ok f) s' | .again c' => c'.quiet = true ∧ codeS (model prog w) A c' R s') (fun e s' => R (.error e) s') s₁) (fun e s' => R (.error e) s') s) :
    codeS (model prog w) A (.call (.builtin id) args) R s := by
  refine codeS_of_tree rfl ?_
  show wpS _ A.in1 (do checkBuiltinCall id args; again (.builtin id args)) _ _ s
  refine wpS_bind (wpS_q h fun _ s₁ h₁ => wpS_pure ⟨plainId_quiet hq args, codeS_builtin hn hb ?_⟩)
  rw [Around.under_plainId hq args]
  exact h₁
theorem if_falseS {α : Type} {M : Model} {c : Bool} {a b : Sem α} {Q : α → Shared → Prop} (hc : c = false) (h : wpS M A b Q E s) : wpS M A (if c = true then a else b) Q E s := by subst hc; exact h
theorem if_trueS {α : Type} {M : Model} {c : Bool} {a b : Sem α} {Q : α → Shared → Prop} (hc : c = true) (h : wpS M A a Q E s) : wpS M A (if c = true then a else b) Q E s := by subst hc; exact h
theorem of_eqS {α : Type} {M : Model} {t : Sem α} {a : α} {Q : α → Shared → Prop} (e : t = pure a) (h : Q a s) : wpS M A t Q E s := by rw [e]; exact wpS_pure h

theorem barr_mro : mroOf (.type "bytearray") = pure [.type "bytearray", .type "object"] := by rw [mroOf_type]; kernel_rfl
theorem barr_lookup_new : typeLookup (.type "bytearray") "__new__" = pure (some (.builtin "bytearray.__new__")) := by rw [typeLookup_type, builtinLookup_eq_fast]; kernel_rfl
theorem barr_made : Bind.madeBy (.type "bytearray") = pure (some "bytearray.__new__") := madeBy_type barr_mro barr_lookup_new (by decide +kernel)
theorem barr_slot_init : Slot "bytearray" "__init__" "bytearray.__init__" :=
  .of (owner := "bytearray") (n := "__init__") (by rw [typeLookup_type, builtinLookup_eq_fast]; kernel_rfl) (by decide +kernel) (by decide +kernel) (by decide +kernel)
    (by first | exact .inl (by decide +kernel) | exact .inr (by decide +kernel)) (by rw [isSubtype_type]; kernel_rfl)
theorem barr_called : TypeCalled "bytearray" "bytearray.__new__" "bytearray.__init__" :=
  ⟨by decide +kernel, by decide +kernel, ⟨_, _, barr_mro⟩, barr_made, by decide +kernel, sub_barr, barr_slot_init⟩
theorem barr_typeCall : checkTypeCall "bytearray" ⟨[], []⟩ = pure () := by kernel_rfl
theorem barr_newCall : checkBuiltinCall "bytearray.__new__" ⟨[.type "bytearray"], []⟩ = pure () := by kernel_rfl
theorem barr_entry_new : entryFor table "bytearray.__new__" = some Builtin.«list.__new__» := by
  first
    | exact entryFor_alias (id' := "list.__new__") (by kernel_rfl) rfl (by decide +kernel) (by kernel_rfl)
    | exact entryFor_alias (id' := "list.__new__") (by rw [fastTable_eq_tree]; kernel_rfl) rfl (by decide +kernel) (by rw [fastTable_eq_tree]; kernel_rfl)
theorem barr_plain_new : plainId "bytearray.__new__" = true := by decide +kernel
set_option maxHeartbeats 4000000 in
theorem barr_owner : ("bytearray.__new__".splitOn ".__new__").headD "" = "bytearray" := by simp +decide [String.splitOn, String.splitOnAux]
theorem barr_entry_init : entryFor table "bytearray.__init__" = some Builtin.«bytearray.__init__» := by first | exact entryFor_of_fast (by kernel_rfl) | exact entryFor_of_tree (by kernel_rfl)
theorem barr_init_args (v : Value) : argsOk "bytearray.__init__" ⟨[v], []⟩ := by unfold argsOk; kernel_rfl
theorem barr_bind : Builtin.Bytes.bindOptional "bytearray.__init__" "bytearray" ["source", "encoding", "errors"] [] [] = pure [none, none, none] := by kernel_rfl

theorem barr_new {Q₁ : Value → Shared → Prop} (h : Q₁ (.ref s.heap.objs.size) { s with heap := s.heap.push { cls := .type "bytearray", data := .bytearray #[] } }) :
    codeAny (model prog w) A (.call (.builtin "bytearray.__new__") ⟨[.type "bytearray"], []⟩) (wants Q₁ E) s := by
  refine codeAny_of_tree ?_
  show wpAny _ A.in1 (do checkBuiltinCall "bytearray.__new__" ⟨[.type "bytearray"], []⟩; again (.builtin "bytearray.__new__" ⟨[.type "bytearray"], []⟩)) _ _ s
  refine wpAny_bind (wpAny_of_eq barr_newCall (wpAny_pure ⟨plainId_quiet barr_plain_new _, codeAny_builtin_stack barr_entry_new rfl fun p st => ?_⟩))
  rw [Around.under_plainId barr_plain_new _]
  have hsub := sub_barr
  have hown := barr_owner
  obtain ⟨hp, g, d, tk, os⟩ := s
  simp only [hown]
  wp_walk
  exact h

theorem barr_new_call {Q : Value → Shared → Prop} (h : Q (.ref s.heap.objs.size) { s with heap := s.heap.push { cls := .type "bytearray", data := .bytearray #[] } }) :
    wpAny (model prog w) A (call (.builtin "bytearray.__new__") [.type "bytearray"]) Q E s := wpAny_call (codeAny_mono (barr_new (E := E) (Q₁ := Q) h) fun r s' z => z)
theorem exp_no {a : Addr} {b : Array UInt8} {Q : Bool → Shared → Prop} (ha : s.heap.get? a = some { cls := .type "bytearray", data := .bytearray b 0 }) (h : Q false s) :
    wpS (model prog w) A (Builtin.Bytes.exported (.ref a) <||> (do return (← Builtin.Bytes.exportsOf (.ref a)) > 0)) Q E s := by
  show wpS _ _ (Builtin.Bytes.exported (.ref a) >>= _) _ _ _
  refine wpS_bind (exported_no ?_)
  unfold Builtin.Bytes.exportsOf
  exact wpS_bind (wpS_bind (wpS_load ha (wpS_pure (wpS_pure h))))
theorem barr_write {a : Addr} {b : Array UInt8} {f : Array UInt8 → Array UInt8} {Q : Unit → Shared → Prop} (ha : s.heap.get? a = some { cls := .type "bytearray", data := .bytearray b 0 }) (hz : (f b).size ≤ sizeLine) (h : Q () { s with heap := s.heap.update a (Obj.mapBytearray f) }) :
    wpAny (model prog w) A (Builtin.Bytes.write (.ref a) f) Q E s := by
  show wpAny _ _ (updateBytearray a f) _ _ _
  unfold updateBytearray
  refine wpAny_bind (wpAny_load ha ?_)
  show wpAny _ _ (update a (Obj.mapBytearray f) >>= fun _ => lookBehind a) _ _ _
  refine wpAny_bind (wpAny_update ha ?_)
  have h2 : (s.heap.update a (Obj.mapBytearray f)).get? a = some { cls := .type "bytearray", data := .bytearray (f b) 0 } := Heap.get?_update_self (Obj.mapBytearray f) ha rfl
  refine wpAny_lookBehind h2 ?_ h
  show (if (f b).size > sizeLine then some "bytearray:memory" else none) = none
  rw [if_neg (Nat.not_lt.mpr hz)]
theorem barr_init {a : Addr} {Q : PySem.Fin → Shared → Prop} (ha : s.heap.get? a = some { cls := .type "bytearray", data := .bytearray #[] 0 }) (h : Q (.done (.ret .none)) { s with heap := s.heap.update a (Obj.mapBytearray fun _ => #[]) }) :
    wpS (model prog w) A (Builtin.«bytearray.__init__» ⟨[.ref a], []⟩) Q E s := by
  have hT : s.TypeIs (.ref a) "bytearray" := ⟨_, ha, rfl⟩
  unfold Builtin.«bytearray.__init__»
  dsimp only
  refine wpS_bind (wpS.of ?_)
  unfold Builtin.Bytes.ownRelease
  refine wpAny_bind (own_of hT look_barr_release (by decide +kernel) (by decide +kernel) (wpAny_pure ?_))
  refine if_falseS rfl ?_
  refine wpS_bind (of_eqS barr_bind ?_)
  dsimp only
  refine wpS_bind (of_eqS (a := ()) rfl (wpS_bind (of_eqS (a := ()) rfl ?_)))
  refine wpS_bind (exp_no ha (if_falseS rfl ?_))
  refine wpS_bind (wpS.of (barr_write ha (Nat.zero_le _) ?_))
  exact wpS_pure h

theorem barr_call {Q : Value → Shared → Prop} (h : Q (.ref s.heap.objs.size) { s with heap := (s.heap.push { cls := .type "bytearray", data := .bytearray #[] }).update s.heap.objs.size (Obj.mapBytearray fun _ => #[]) }) :
    wpS (model prog w) A (call (.type "bytearray") []) Q E s := by
  obtain ⟨c, tl, hmro⟩ := barr_called.mro
  refine wpS_call (codeS_of_tree rfl ?_)
  show wpS _ _ (callAny (.type "bytearray") _) _ _ _
  refine wpS_pure ⟨Code.quiet_builtin _ (by decide +kernel), codeS_builtin (by decide +kernel) F.entry_type_call ?_⟩
  rw [Around.under_plain (weight_type_call_type "bytearray" [] []) rfl]
  unfold Builtin.«type.__call__»
  dsimp only
  refine if_falseS barr_called.notType ?_
  refine if_falseS barr_called.canCreate ?_
  refine wpS_bind (of_eqS barr_typeCall ?_)
  refine wpS_bind (of_eqS hmro ?_)
  refine if_falseS rfl ?_
  refine wpS_bind (of_eqS barr_made ?_)
  dsimp only
  refine wpS_bind (of_eqS rfl ?_)
  refine wpS_bind (wpS_holding (wpS.of (barr_new_call ?_)))
  have ha : (s.heap.push { cls := .type "bytearray", data := .bytearray #[] }).get? s.heap.objs.size = some { cls := .type "bytearray", data := .bytearray #[] } := Heap.get?_push_size _ rfl
  have hT : ({ s with heap := s.heap.push { cls := .type "bytearray", data := .bytearray #[] } } : Shared).TypeIs (.ref s.heap.objs.size) "bytearray" := ⟨_, ha, rfl⟩
  refine wpS_bind (wpS.of (wpAny_isInstance hT sub_barr (if_falseS rfl ?_)))
  unfold callSpecial?
  refine wpS_bind (wpS_holding (wpS_bind (wpS.of (wpAny_specialOf hT barr_slot_init.lookup ?_))))
  dsimp only
  refine wpS_holding ?_
  rw [barr_slot_init.bind]
  refine wpS_bind (wpS_pure (wpS_bind (wpS_call (codeS_call_builtin barr_slot_init.plain (by decide +kernel) barr_entry_init ?_))))
  refine wpS.of (barr_slot_init.check _ _ _ _ _ _ _ _ hT (barr_init_args _) (barr_init ha ?_))
  exact wpS_pure (wpS_pure h)

theorem barr_slot_append : Slot "bytearray" "append" "bytearray.append" :=
  .of (owner := "bytearray") (n := "append") (by rw [typeLookup_type, builtinLookup_eq_fast]; kernel_rfl) (by decide +kernel) (by decide +kernel) (by decide +kernel)
    (by first | exact .inl (by decide +kernel) | exact .inr (by decide +kernel)) (by rw [isSubtype_type]; kernel_rfl)
theorem barr_entry_append : entryFor table "bytearray.append" = some Builtin.«bytearray.append» := by first | exact entryFor_of_fast (by kernel_rfl) | exact entryFor_of_tree (by kernel_rfl)
theorem barr_append_args (v x : Value) : argsOk "bytearray.append" ⟨[v, x], []⟩ := by unfold argsOk; kernel_rfl
theorem barr_append {a : Addr} {b : Array UInt8} {i : Int} {t : Tok} {Q : Value → Shared → Prop} (ha : s.heap.get? a = some { cls := .type "bytearray", data := .bytearray b 0 }) (h0 : 0 ≤ i) (h1 : i < 256) (hz : b.size < sizeLine)
    (h : Q .none { s with heap := s.heap.update a (Obj.mapBytearray (·.push i.toNat.toUInt8)) }) :
    wpS (model prog w) A (call (.builtin "bytearray.append") [.ref a, .int i t]) Q E s := by
  have hT : s.TypeIs (.ref a) "bytearray" := ⟨_, ha, rfl⟩
  refine wpS_call (codeS_call_builtin barr_slot_append.plain (by decide +kernel) barr_entry_append ?_)
  refine wpS.of (barr_slot_append.check _ _ _ _ _ _ _ _ hT (barr_append_args _ _) ?_)
  unfold Builtin.«bytearray.append»
  refine wpS_bind (of_eqS rfl ?_)
  dsimp only
  unfold Builtin.Bytes.byteValue
  refine wpS_bind (wpS_bind (of_eqS (rfl : asIndex (.int i t) = pure i) ?_))
  refine if_falseS (by simp only [Bool.or_eq_false_iff, decide_eq_false_iff_not]; omega) (wpS_pure ?_)
  unfold Builtin.Bytes.checkResize
  refine wpS_bind (wpS_bind (exp_no ha (if_falseS rfl (wpS_pure ?_))))
  refine wpS_bind (wpS.of (barr_write ha (by rw [Array.size_push]; exact hz) ?_))
  exact wpS_pure h
end
end Mine
end

section
open PySem PySem.W PyProof.Rows
set_option maxRecDepth 100000
namespace Mine
theorem keeper_plain {M : Model} {h : Heap} {f : Value} (hf : ∀ a, f ≠ .ref a) : ∃ k, Looks M h (keeperOf f) k := by
  refine ⟨.machine, Looks.of_pure ?_⟩
  cases f <;> first | rfl | exact absurd rfl (hf _)

theorem figVal_eq (l : List Nat) : figVal l = NumText.digitsVal l := rfl
section
variable {prog : Program} {w : World} {K : Frag} {p : Program} {loose : List Str} {mean : ExcName → Option Value} {mg mb : Str → Option Value} {g₀ : Heap} {c : Cx} {fr : List Fm} {d : Nat} {m : Lo}
  {σ σ' : List TO} {r : Ex AV} {g : Gh} {mm : Str → Option Value} {s : Shared} {Q : Value → Shared → Prop} {E : Value → Shared → Prop}

theorem VRs.one {g : Gh} {a : AV} {us : List Value} (h : VRs g [a] us) : ∃ u, us = [u] ∧ VR g a u := by
  obtain ⟨v, vs, e, h1, h2⟩ := h
  rw [show vs = [] from h2] at e
  exact ⟨v, e, h1⟩
theorem VRs.two {g : Gh} {a b : AV} {us : List Value} (h : VRs g [a, b] us) : ∃ u v, us = [u, v] ∧ VR g a u ∧ VR g b v := by
  obtain ⟨v, vs, e, h1, h2⟩ := h
  obtain ⟨u, rfl, h3⟩ := h2.one
  exact ⟨v, u, e, h1, h3⟩

theorem byteArr_eq {l : List Int} : PySem.byteArr l = (l.map fun c => UInt8.ofNat c.toNat).toArray := rfl

theorem callB_ok {f : Value} {as : List AV} {us : List Value} (C : CxOk c) (hx : callB σ f as = some (r, σ')) (ha : VRs g as us) (st : St g₀ c fr d m σ g mm s.heap) (fin : Fin VR g₀ c fr mm r σ' g s Q E) :
    (∃ k, Looks (model prog w) s.heap (keeperOf f) k) ∧ wpS (model prog w) c.A (call f us) Q E s := by
  unfold callB at hx
  split at hx
  · -- len
    rename_i e; subst e
    refine ⟨keeper_plain (by intro a; nofun), ?_⟩
    split at hx
    · obtain ⟨u, rfl, t, rfl⟩ := ha.one
      split at hx
      · rename_i x hl
        obtain ⟨rfl, rfl⟩ := ret_some hx
        refine wpS.of (PyProof.Rows.len_str (by simp [Str.length]; omega) (fin.pure st ⟨s.toks + 1, by simp [Str.length]⟩))
      · cases hx
    · obtain ⟨u, rfl, t, rfl⟩ := ha.one
      split at hx
      · rename_i x hl
        obtain ⟨rfl, rfl⟩ := ret_some hx
        exact wpS.of (len_bytes (by simp; omega) (fin.pure st ⟨s.toks + 1, by simp⟩))
      · cases hx
    · obtain ⟨u, rfl, x, rfl, l⟩ := ha.one
      split at hx
      · rename_i i vs e
        split at hx
        · rename_i hl
          obtain ⟨rfl, rfl⟩ := ret_some hx
          obtain ⟨x', l', items, n, hx', z⟩ := st.I.so _ _ e
          rw [l] at l'; cases l'
          have hz := z.length
          rw [Array.length_toList] at hz
          exact wpS.of (Calls.call_len_list (isList_of hx') (by omega) (fin.pure st ⟨s.toks + 1, by rw [hz]⟩))
        · cases hx
      · cases hx
    · cases hx
  split at hx
  · -- ord
    rename_i e; subst e
    refine ⟨keeper_plain (by intro a; nofun), ?_⟩
    split at hx
    · obtain ⟨u, rfl, t, rfl⟩ := ha.one
      obtain ⟨rfl, rfl⟩ := ret_some hx
      exact wpS.of (P.ord_of_char (fin.pure st ⟨_, rfl⟩))
    · cases hx
  split at hx
  · -- chr
    rename_i e; subst e
    refine ⟨keeper_plain (by intro a; nofun), ?_⟩
    split at hx
    · obtain ⟨u, rfl, t, rfl⟩ := ha.one
      split at hx
      · rename_i hl
        obtain ⟨rfl, rfl⟩ := ret_some hx
        exact wpS.of (P.chr_of_int (by simp only [Bool.or_eq_false_iff, decide_eq_false_iff_not]; omega) (fin.pure st ⟨_, rfl⟩))
      · cases hx
    · cases hx
  split at hx
  · -- bytes
    rename_i e; subst e
    refine ⟨keeper_plain (by intro a; nofun), ?_⟩
    split at hx
    · obtain ⟨u, rfl, t, rfl⟩ := ha.one
      obtain ⟨rfl, rfl⟩ := ret_some hx
      exact wpS.of (bytes_bytes (fin.pure (tk := s.toks) st ⟨_, rfl⟩))
    · obtain ⟨u, rfl, x, rfl, l⟩ := ha.one
      split at hx
      · rename_i i vs e
        obtain ⟨v, hv, rfl, rfl⟩ := opt_some hx
        simp only [Option.bind_eq_some_iff] at hv
        obtain ⟨ns, hn, hv⟩ := hv
        unfold bytesOfInts at hv
        split at hv
        · rename_i hc
          cases hv
          obtain ⟨x', l', items, n, hx', z⟩ := st.I.so _ _ e
          rw [l] at l'; cases l'
          have hI := ints_are hn z
          refine wpS.of (call_bytes_ints (vs := items.toList) (by simpa using isList_of hx') hI (fun n hn => ?_) (by rw [hI.length, sizeLine_eq]; omega) C.hh fun h' t k hk => fin.made st hk ⟨t, ?_⟩)
          · have := List.all_eq_true.mp hc.1 n hn
            simpa using this
          · rw [byteArr_eq]
        · cases hv
      · rename_i b e
        split at hx
        · rename_i hl
          obtain ⟨rfl, rfl⟩ := ret_some hx
          obtain ⟨x', l', z⟩ := st.I.so _ _ e
          rw [l] at l'; cases l'
          exact wpS.of (bytes_barr z (by rw [sizeLine_eq, List.size_toArray]; omega) fun t k => fin.pure st ⟨t, rfl⟩)
        · cases hx
      · cases hx
    · cases hx
  split at hx
  · -- bytearray
    rename_i e; subst e
    refine ⟨keeper_plain (by intro a; nofun), ?_⟩
    split at hx
    · obtain rfl : us = [] := ha
      simp only [mk, Option.some.injEq, Prod.mk.injEq] at hx
      obtain ⟨rfl, rfl⟩ := hx
      refine barr_call ?_
      have hp : (s.heap.push { cls := .type "bytearray", data := .bytearray #[] }).get? s.heap.objs.size = some { cls := .type "bytearray", data := .bytearray #[] } := Heap.get?_push_size _ rfl
      have kp : ∀ b o', s.heap.get? b = some o' → ((s.heap.push { cls := .type "bytearray", data := .bytearray #[] }).update s.heap.objs.size (Obj.mapBytearray fun _ => #[])).get? b = some o' := fun b o e =>
        (Heap.get?_update_other _ _ (fun q => by rw [← q, get_size] at e; cases e)).trans (Heap.get?_push_of_some _ e)
      have hT := st.I.track (t := .barr []) kp (get_size _) st.I.size_le (Heap.get?_update_self (Obj.mapBytearray fun _ => #[]) hp rfl)
      exact fin.ok _ rfl _ _ _ s.toks hT.1 hT.2 ⟨_, rfl, by simp [Gh.track]⟩
    · cases hx
  split at hx
  · -- int
    rename_i e; subst e
    refine ⟨keeper_plain (by intro a; nofun), ?_⟩
    split at hx
    · obtain ⟨u, rfl, t, rfl⟩ := ha.one
      split at hx
      · rename_i x hl
        obtain ⟨rfl, rfl⟩ := ret_some hx
        have h1 := hl.1
        simp only [figs, Bool.and_eq_true, bne_iff_ne, ne_eq, List.all_eq_true, decide_eq_true_eq] at h1
        have e := PySem.intText_digits (x := ⟨x.toArray⟩) (fun c hc => h1.2 c (by simpa using hc)) (by simpa using h1.1) (by simp [Str.length]; omega)
        refine wpS.of (KIN.call_text e (by simp [Str.length]; omega) (fin.pure st ⟨s.toks, ?_⟩))
        rw [figVal_eq]
      · cases hx
    · obtain ⟨u, rfl, t, rfl⟩ := ha.one
      obtain ⟨rfl, rfl⟩ := ret_some hx
      exact wpS.of (call_int_int (fin.pure (tk := s.toks) st ⟨_, rfl⟩))
    · cases hx
  · cases hx
end
end Mine
end

section
open PySem PySem.W PyProof.Rows
set_option maxRecDepth 100000
namespace Mine

/-! split by one sign -/
noncomputable def joinL (c : Nat) : List (List Nat) → List Nat
  | [] => []
  | [x] => x
  | x :: r => x ++ c :: joinL c r
theorem splitL_ne (c : Nat) : ∀ s, splitL c s ≠ []
  | [] => by simp [splitL]
  | x :: r => by
    simp only [splitL]
    split
    · simp
    · split <;> simp
theorem splitL_free (c : Nat) : ∀ (p s : List Nat), c ∉ p → splitL c (p ++ s) = match splitL c s with
    | [] => [p]
    | q :: qs => (p ++ q) :: qs
  | [], s, _ => by
    have := splitL_ne c s
    cases e : splitL c s with
    | nil => exact absurd e this
    | cons q qs => simp [e]
  | x :: p, s, h => by
    have hx : x ≠ c := fun q => h (by rw [q]; exact List.mem_cons_self)
    rw [List.cons_append, splitL, if_neg hx, splitL_free c p s (fun q => h (List.mem_cons_of_mem _ q))]
    have := splitL_ne c s
    cases e : splitL c s with
    | nil => exact absurd e this
    | cons q qs => rfl
theorem splitL_join (c : Nat) : ∀ ps : List (List Nat), ps ≠ [] → (∀ p ∈ ps, c ∉ p) → splitL c (joinL c ps) = ps
  | [], h, _ => absurd rfl h
  | [x], _, h => by
    have := splitL_free c x [] (h x List.mem_cons_self)
    simpa [joinL, splitL] using this
  | x :: y :: r, _, h => by
    rw [joinL, splitL_free c x _ (h x List.mem_cons_self), splitL, if_pos rfl, splitL_join c (y :: r) (by simp) (fun p hp => h p (List.mem_cons_of_mem _ hp))]
    simp
    nofun
theorem join_cps (c : Nat) : ∀ ps : List Str, (Str.join ⟨#[c]⟩ ps).cps.toList = joinL c (ps.map (·.cps.toList))
  | [] => rfl
  | [x] => rfl
  | x :: y :: r => by
    have := join_cps c (y :: r)
    simp only [Str.join, List.map_cons, joinL]
    show (Str.append (Str.append x ⟨#[c]⟩) _).cps.toList = _
    simp only [Str.append, Array.toList_append]
    rw [this]
    simp [joinL]
end Mine
end

section
open PySem PySem.W PyProof.Rows
set_option maxRecDepth 100000
namespace Mine

theorem barr_attrs : PlainAttrs "bytearray" := ⟨⟨"bytearray.__getattribute__", by rw [typeLookup_type, builtinLookup_eq_fast]; kernel_rfl, by decide +kernel⟩, by rw [typeLookup_type, builtinLookup_eq_fast]; kernel_rfl⟩
theorem barr_type_append : typeOf (.builtin "bytearray.append") = pure (.type "method_descriptor") := by show builtinType _ = _; rw [builtinType_eq_fast]; kernel_rfl

theorem cMeth_name {K : Frag} {name : Str} {k : MK} (h : cMeth K name = some k) : match k with
    | .split => name = Str.ofString "split"
    | .lower => name = Str.ofString "lower"
    | .upper => name = Str.ofString "upper"
    | .pop => name = Str.ofString "pop"
    | .index => name = Str.ofString "index"
    | .append => name = Str.ofString "append"
    | .join => name = Str.ofString "join"
    | .own n f => n = name ∧ wireM K name = some f := by
  unfold cMeth at h
  repeat' (split at h)
  all_goals first
    | (cases h; assumption)
    | (simp only [Option.map_eq_some_iff] at h; obtain ⟨f, hf, rfl⟩ := h; exact ⟨rfl, hf⟩)

noncomputable def midOf : MK → Nat → String
  | .split, _ => "str.split"
  | .lower, _ => "str.lower"
  | .upper, _ => "str.upper"
  | .pop, _ => "list.pop"
  | .index, 1 => "list.index"
  | .index, _ => "tuple.index"
  | .append, _ => "bytearray.append"
  | .join, _ => "str.join"
  | .own _ _, _ => ""

/-- what getMethod wants -/
structure MOf (s : Shared) (u : Value) (name : Str) (T id : String) : Prop where
  pa : PlainAttrs T
  slot : Slot T name id
  ty : typeOf (.builtin id) = pure (.type "method_descriptor")
  is : s.TypeIs u T
  nd : ∀ a, u = .ref a → ∃ o, s.heap.get? a = some o ∧ o.dict = none

section
variable {prog : Program} {w : World} {K : Frag} {p : Program} {loose : List Str} {mean : ExcName → Option Value} {mg mb : Str → Option Value} {g₀ : Heap} {c : Cx} {fr : List Fm} {d : Nat} {m : Lo}
  {σ σ' : List TO} {g : Gh} {mm : Str → Option Value} {s : Shared}

theorem str_mof {u : Value} {x : List Nat} {name : Str} {id : String} (hu : VR g (.str x) u) (slot : Slot "str" name id) (ty : typeOf (.builtin id) = pure (.type "method_descriptor")) : MOf s u name "str" id := by
  obtain ⟨t, rfl⟩ := hu
  exact ⟨F.plainAttrs_str, slot, ty, typeIs_str _ _ _, fun a e => nomatch e⟩

theorem get_ok {name : Str} {k : MK} {o : AV} {u : Value} {as : List AV} {r : Ex AV} {σ'' : List TO} (X : K.In g₀) (hk : cMeth K name = some k) (h : methB K σ' k o as = some (r, σ'')) (hkd : kindT σ o = kindT σ' o) (hu : VR g o u) (I : Inv g₀ g fr σ s.heap) :
    ∃ T, MOf s u name T (midOf k (kindT σ o)) := by
  have hn := cMeth_name hk
  unfold methB at h
  split at h
  · rw [show name = Str.ofString "split" from hn]; exact ⟨_, str_mof hu F.slot_str_split F.type_str_split⟩
  · rw [show name = Str.ofString "lower" from hn]; exact ⟨_, str_mof hu F.slot_str_lower F.type_str_lower⟩
  · rw [show name = Str.ofString "upper" from hn]; exact ⟨_, str_mof hu F.slot_str_upper F.type_str_upper⟩
  · rw [show name = Str.ofString "pop" from hn]
    rename_i i
    split at h
    · rename_i v vs e
      have e' : kindT σ (.loc i) = 1 := by rw [hkd]; simp [kindT, e]
      simp only [kindT] at e'
      split at e' <;> try (exact absurd e' (by decide))
      rename_i vs' e2
      obtain ⟨x, rfl, l⟩ := hu
      obtain ⟨x', l', items, n, hx, z⟩ := I.so _ _ e2
      rw [l] at l'; cases l'
      exact ⟨"list", F.plainAttrs_list, F.slot_list_pop, F.type_list_pop, ⟨_, hx, rfl⟩, fun a q => by cases q; exact ⟨_, hx, rfl⟩⟩
    · cases h
  · rw [show name = Str.ofString "index" from hn]
    rename_i i _
    split at h
    · rename_i vs e
      have e' : kindT σ (.loc i) = 1 := by rw [hkd]; simp [kindT, e]
      rw [e']
      simp only [kindT] at e'
      split at e' <;> try (exact absurd e' (by decide))
      rename_i vs' e2
      obtain ⟨x, rfl, l⟩ := hu
      obtain ⟨x', l', items, n, hx, z⟩ := I.so _ _ e2
      rw [l] at l'; cases l'
      exact ⟨"list", F.plainAttrs_list, F.slot_list_index, F.type_list_index, ⟨_, hx, rfl⟩, fun a q => by cases q; exact ⟨_, hx, rfl⟩⟩
    · cases h
  · rw [show name = Str.ofString "index" from hn]
    obtain ⟨v, hv, -, -⟩ := opt_some h
    simp only [Option.bind_eq_some_iff] at hv
    obtain ⟨vs, h1, -⟩ := hv
    obtain ⟨x, items, n, rfl, f, z⟩ := tup_at X I hu h1
    have hx := I.fz _ _ f
    have e' : kindT σ o = 3 := by
      unfold tupItems at h1
      split at h1 <;> first | rfl | cases h1
    rw [e']
    exact ⟨"tuple", F.plainAttrs_tuple, F.slot_tuple_index, F.type_tuple_index, ⟨_, hx, rfl⟩, fun a q => by cases q; exact ⟨_, hx, rfl⟩⟩
  · rw [show name = Str.ofString "append" from hn]
    rename_i i c
    split at h
    · rename_i b e
      have e' : kindT σ (.loc i) = 2 := by rw [hkd]; simp [kindT, e]
      simp only [kindT] at e'
      split at e' <;> try (exact absurd e' (by decide))
      rename_i vs' e2
      obtain ⟨x, rfl, l⟩ := hu
      obtain ⟨x', l', hx⟩ := I.so _ _ e2
      rw [l] at l'; cases l'
      exact ⟨"bytearray", barr_attrs, barr_slot_append, barr_type_append, ⟨_, hx, rfl⟩, fun a q => by cases q; exact ⟨_, hx, rfl⟩⟩
    · cases h
  · rw [show name = Str.ofString "join" from hn]; exact ⟨_, str_mof hu F.slot_str_join F.type_str_join⟩
  · cases h
theorem MOf.get {u : Value} {name : Str} {T id : String} {pl : Sem Bool} {A : Around} {Q : Value × List Value → Shared → Prop} {E : Value → Shared → Prop} (M : MOf s u name T id) (h : Q (.builtin id, [u]) s) : wpAny (model prog w) A (getMethod u name pl) Q E s :=
  getMethod_builtin M.is M.pa M.slot M.ty M.nd h
end
end Mine
end

section
open PySem PySem.W PyProof.Rows
set_option maxRecDepth 100000
namespace Mine
theorem lower_eq {x : List Nat} (h : ascii x = true) : Txt.lower ⟨x.toArray⟩ = ⟨(x.map lowerN).toArray⟩ := by
  rw [lower_ascii (by simpa [ascii] using h)]
  simp only [List.map_toArray]
  rfl
theorem upper_eq {x : List Nat} (h : ascii x = true) : Txt.upper ⟨x.toArray⟩ = ⟨(x.map upperN).toArray⟩ := by
  rw [upper_ascii (by simpa [ascii] using h)]
  simp only [List.map_toArray]
  rfl
theorem split_ne (x y : Str) : Txt.split x y ≠ [] := by
  unfold Txt.split
  split
  · simp
  · split
    · simp
    · simp [Builtin.Str.partsBetween]
theorem split_eq (x : List Nat) (c : Nat) : (Txt.split ⟨x.toArray⟩ ⟨#[c]⟩).map (·.cps.toList) = splitL c x := by
  have h1 := StrLaws.join_split ⟨x.toArray⟩ ⟨#[c]⟩
  have h2 := join_cps c (Txt.split ⟨x.toArray⟩ ⟨#[c]⟩)
  rw [h1] at h2
  have h3 := splitL_join c ((Txt.split ⟨x.toArray⟩ ⟨#[c]⟩).map (·.cps.toList)) (by simpa using split_ne _ _) (by
    intro p hp
    obtain ⟨q, hq, rfl⟩ := List.mem_map.mp hp
    exact StrLaws.split_free _ c q hq)
  rw [← h3, ← h2]
theorem VRs.strs {g : Gh} : ∀ {l : List (Str × Tok)}, VRs g (l.map fun p => AV.str p.1.cps.toList) (strValues l)
  | [] => rfl
  | p :: r => ⟨_, _, rfl, ⟨p.2, by simp⟩, VRs.strs⟩
theorem splits_map {l : List (Str × Tok)} {x : List Nat} {c : Nat} (e : l.map (·.1) = Txt.split ⟨x.toArray⟩ ⟨#[c]⟩) : (l.map fun p => AV.str p.1.cps.toList) = (splitL c x).map .str := by
  rw [← split_eq, ← e]
  simp
theorem splitL_free' (c : Nat) : ∀ l : List (List Nat), AV.frees (l.map .str) = true
  | [] => rfl
  | _ :: r => by simp [AV.frees, AV.free, splitL_free' c r]

section
variable {prog : Program} {w : World} {A : Around} {E : Value → Shared → Prop} {s : Shared}
theorem split_call {x : List Nat} {c : Nat} {t u : Tok} {Q : Value → Shared → Prop} (hz : x.length ≤ 100000)
    (h : ∀ l k, l.map (·.1) = Txt.split ⟨x.toArray⟩ ⟨#[c]⟩ → Q (.ref s.heap.objs.size) { s with heap := s.heap.push (lstObj (strValues l).toArray 0), toks := k }) :
    wpAny (model prog w) A (call (.builtin "str.split") [.str ⟨x.toArray⟩ t, .str ⟨#[c]⟩ u]) Q E s := by
  have hxz : Str.length ⟨x.toArray⟩ ≤ 100000 := by simpa [Str.length] using hz
  have hy : ((⟨#[c]⟩ : Str).length == 0) = false := rfl
  have e1 := StrLaws.occ_length_le ⟨x.toArray⟩ ⟨#[c]⟩ 0 (Str.length ⟨x.toArray⟩) (Str.length ⟨x.toArray⟩ + 1)
  have hn : (Builtin.Str.partsBetween ⟨x.toArray⟩ (Builtin.Str.occurrences ⟨x.toArray⟩ ⟨#[c]⟩ 0 (Str.length ⟨x.toArray⟩) (Str.length ⟨x.toArray⟩ + 1)) (Str.length ⟨#[c]⟩)).length ≤ sizeLine := by
    rw [length_partsBetween, sizeLine_eq]; omega
  have hs : Str.length ⟨x.toArray⟩ ≤ sizeLine := by rw [sizeLine_eq]; omega
  cases h1 : (decide (Str.length ⟨x.toArray⟩ < Str.length ⟨#[c]⟩) || decide (Builtin.Str.strKind ⟨x.toArray⟩ < Builtin.Str.strKind ⟨#[c]⟩))
  · cases hf : (Builtin.Str.occurrences ⟨x.toArray⟩ ⟨#[c]⟩ 0 (Str.length ⟨x.toArray⟩) (Str.length ⟨x.toArray⟩ + 1)).isEmpty
    · refine call_meets F.slot_str_split (typeIs_str _ _ _) F.entry_str_split (F.args_str_split_2 _ _) (meets_str_split_sep _ _ t u h1 hy hf hs hn) ?_
      have := h (numbered s.toks (Builtin.Str.partsBetween ⟨x.toArray⟩ (Builtin.Str.occurrences ⟨x.toArray⟩ ⟨#[c]⟩ 0 (Str.length ⟨x.toArray⟩) (Str.length ⟨x.toArray⟩ + 1)) (Str.length ⟨#[c]⟩)))
        (s.toks + (Builtin.Str.partsBetween ⟨x.toArray⟩ (Builtin.Str.occurrences ⟨x.toArray⟩ ⟨#[c]⟩ 0 (Str.length ⟨x.toArray⟩) (Str.length ⟨x.toArray⟩ + 1)) (Str.length ⟨#[c]⟩)).length)
        ((numbered_texts _ _).trans (by unfold Txt.split; rw [if_neg (ne_true_of_eq_false h1), if_neg (ne_true_of_eq_false hf)]))
      rw [← strsFrom_eq] at this
      exact this
    · exact call_meets F.slot_str_split (typeIs_str _ _ _) F.entry_str_split (F.args_str_split_2 _ _) (meets_str_split_not_found _ _ t u h1 hy hf)
        (h [(_, t)] s.toks (by unfold Txt.split; rw [if_neg (ne_true_of_eq_false h1), if_pos hf]; rfl))
  · exact call_meets F.slot_str_split (typeIs_str _ _ _) F.entry_str_split (F.args_str_split_2 _ _) (meets_str_split_cannot_occur _ _ t u h1)
      (h [(_, t)] s.toks (by unfold Txt.split; rw [if_pos h1]; rfl))
end
end Mine
end

section
open PySem PySem.W PyProof.Rows
set_option maxRecDepth 100000
namespace Mine
open MeetsSeq in
/-- the key's place -/
noncomputable def isKey (k : List Nat) : Value → Bool
  | .str x _ => x.cps.toList == k
  | _ => false
theorem eq_isKey (k : List Nat) (t : Tok) {vs : List Value} {l : List Str} (h : StrsAre vs l) : ∀ y ∈ vs, MeetsSeq.EqGives y (.str ⟨k.toArray⟩ t) (isKey k y) := by
  induction h with
  | nil => nofun
  | cons x u _ ih =>
    intro y hy
    rcases List.mem_cons.mp hy with rfl | hy
    · exact SeqRoads2.EqGives.str x ⟨k.toArray⟩ u t
    · exact ih y hy
theorem key_at {g : Gh} {k : List Nat} : ∀ {as : List AV} {us : List Value} {l : List (List Nat)} {j : Nat}, strsOf as = some l → VRs g as us → l.findIdx? (· == k) = some j →
    ∃ hj : j < us.length, isKey k us[j] = true ∧ ∀ m (hm : m < us.length), m < j → isKey k us[m] = false := by
  intro as us l j h r e
  have S := strs_are h r
  obtain ⟨h1, h2, h3⟩ := List.findIdx?_eq_some_iff_getElem.mp e
  have key : ∀ {vs : List Value} {l : List (List Nat)}, StrsAre vs (l.map fun x => ⟨x.toArray⟩) → vs.length = l.length ∧ ∀ i (hi : i < vs.length) (hi' : i < l.length), isKey k vs[i] = (l[i] == k) := by
    intro vs l S
    generalize hm : l.map (fun x => (⟨x.toArray⟩ : Str)) = m at S
    induction S generalizing l with
    | nil =>
      have : l = [] := by simpa using hm
      subst this
      exact ⟨rfl, nofun⟩
    | cons x u _ ih =>
      cases l with
      | nil => simp at hm
      | cons y l =>
        simp only [List.map_cons, List.cons.injEq] at hm
        obtain ⟨rfl, hm⟩ := hm
        obtain ⟨h1, h2⟩ := ih hm
        refine ⟨by simp [h1], fun i hi hi' => ?_⟩
        cases i with
        | zero => simp [isKey]
        | succ i => simpa using h2 i (by simpa using hi) (by simpa using hi')
  obtain ⟨e1, e2⟩ := key S
  refine ⟨by omega, ?_, fun m hm hlt => ?_⟩
  · rw [e2 j (by omega) h1]; exact h2
  · rw [e2 m hm (by omega)]
    have := h3 m hlt
    simpa using this

section
variable {prog : Program} {w : World} {A : Around} {E : Value → Shared → Prop} {s : Shared}
theorem tuple_index {a : Addr} {items : Array Value} {n : Nat} {x : Value} {e : Value → Bool} {j : Nat} {Q : Value → Shared → Prop} (ha : s.heap.get? a = some (tupObj items n)) (he : ∀ y ∈ items, MeetsSeq.EqGives y x (e y)) (hj : j < items.size) (hit : e items[j] = true)
    (hno : ∀ m (hm : m < items.size), m < j → e items[m] = false) (h : Q (.int j s.toks) { s with toks := s.toks + 1 }) : wpAny (model prog w) A (call (.builtin "tuple.index") [.ref a, x]) Q E s := by
  have hT : s.TypeIs (.ref a) "tuple" := ⟨_, ha, rfl⟩
  refine wpAny_call (codeAny_call_builtin F.slot_tuple_index.plain F.entry_tuple_index (F.slot_tuple_index.check _ _ _ _ _ _ _ _ hT (F.args_tuple_index_2 _ _) ?_))
  unfold Builtin.«tuple.index»
  refine wpAny_bind (wpAny_of_eq rfl ?_)
  dsimp only
  unfold Builtin.Tuple.tupleItemsOf
  refine wpAny_bind (wpAny_bind (wpAny_seqItems ha rfl (wpAny_pure ?_)))
  refine wpAny_bind (wpAny_pure (wpAny_bind (wpAny_pure ?_)))
  refine wpAny_bind ?_
  rw [Std.Legacy.Range.forIn_eq_forIn_range']
  have hsz : ([0:min items.size items.size] : Std.Legacy.Range).size = items.size := by simp [Std.Legacy.Range.size]
  show wpAny _ _ (forIn (List.range' 0 ([0:min items.size items.size] : Std.Legacy.Range).size 1) _ _) _ _ _
  rw [hsz]
  have key : ∀ k i, j - i = k → i ≤ j → ∀ {R : Option PySem.Fin × Unit → Shared → Prop} {E : Value → Shared → Prop}, R (some (.done (.ret (.int j s.toks))), ()) { s with toks := s.toks + 1 } →
      wpAny (model prog w) A.in1 (forIn (List.range' i (items.size - i) 1) ((none, ()) : Option PySem.Fin × Unit) fun (i : Nat) _ => match items[i]? with
        | some y => do
          if ← eqBool y x then return ForInStep.done (some (← retInt i), ()) else pure (ForInStep.yield (none, ()))
        | x => pure (ForInStep.yield (none, ()))) R E s := by
    intro k
    induction k with
    | zero =>
      intro i hk hi R E hR
      obtain rfl : i = j := by omega
      obtain ⟨n', hn'⟩ : ∃ n', items.size - i = n' + 1 := ⟨items.size - i - 1, by omega⟩
      rw [hn', List.range'_succ, List.forIn_cons, Array.getElem?_eq_getElem hj]
      refine wpAny_bind (wpAny_bind (he _ (Array.getElem_mem hj) prog w _ _ _ _ ?_))
      rw [hit]
      refine wpAny_bind (wpAny_bind (wpAny_mkInt (wpAny_pure (wpAny_pure (wpAny_pure hR)))))
    | succ k ih =>
      intro i hk hi R E hR
      have hlt : i < items.size := by omega
      obtain ⟨n', hn'⟩ : ∃ n', items.size - i = n' + 1 := ⟨items.size - i - 1, by omega⟩
      rw [hn', List.range'_succ, List.forIn_cons, Array.getElem?_eq_getElem hlt]
      refine wpAny_bind (wpAny_bind (he _ (Array.getElem_mem hlt) prog w _ _ _ _ ?_))
      rw [hno i hlt (by omega)]
      refine wpAny_pure ?_
      have := ih (i + 1) (by omega) (by omega) (R := R) (E := E) hR
      rw [show items.size - (i + 1) = n' by omega] at this
      exact this
  refine key j 0 (by omega) (by omega) ?_
  exact wpAny_pure h
end
end Mine
end

section
open PySem PySem.W PyProof.Rows
set_option maxRecDepth 100000
namespace Mine
theorem join_one : ∀ l : List (List Nat), Txt.join ⟨#[]⟩ (l.map fun x => ⟨x.toArray⟩) = ⟨l.flatten.toArray⟩ := by
  intro l
  unfold Txt.join Builtin.Str.glued
  have key : ∀ (l : List (List Nat)) (acc : Array Nat), (l.map fun x => (⟨x.toArray⟩ : Str)).foldl (fun acc p => acc ++ (#[] : Array Nat) ++ p.cps) acc = acc ++ l.flatten.toArray := by
    intro l
    induction l with
    | nil => intro acc; simp
    | cons x r ih =>
      intro acc
      simp only [List.map_cons, List.foldl_cons, List.flatten_cons]
      rw [ih]
      simp
  cases l with
  | nil => rfl
  | cons x r =>
    simp only [List.map_cons, List.drop_succ_cons, List.drop_zero, List.headD_cons]
    rw [key]
    simp

section
variable {prog : Program} {w : World} {K : Frag} {p : Program} {loose : List Str} {mean : ExcName → Option Value} {mg mb : Str → Option Value} {g₀ : Heap} {c : Cx} {fr : List Fm} {d : Nat} {m : Lo}
  {σ σ' : List TO} {g : Gh} {mm : Str → Option Value} {s : Shared} {Q : Value → Shared → Prop} {E : Value → Shared → Prop}

theorem key_tests {items : Array Value} {l : List Str} {k : List Nat} {t : Tok} (S : StrsAre items.toList l) : ∀ y ∈ items, MeetsSeq.EqGives y (.str ⟨k.toArray⟩ t) (isKey k y) := fun y hy => eq_isKey k t S y (by simpa using hy)

theorem methCall_ok {k : MK} {o : AV} {as : List AV} {u : Value} {us : List Value} {r : Ex AV} (X : K.In g₀) (hx : methB K σ k o as = some (r, σ')) (hu : VR g o u) (ha : VRs g as us) (st : St g₀ c fr d m σ g mm s.heap) (fin : Fin VR g₀ c fr mm r σ' g s Q E) :
    wpS (model prog w) c.A (call (.builtin (midOf k (kindT σ o))) (u :: us)) Q E s := by
  unfold methB at hx
  split at hx
  · -- split
    obtain ⟨v, rfl, t', rfl⟩ := ha.one
    obtain ⟨t, rfl⟩ := hu
    split at hx
    · rename_i x cc hl
      simp only [mk, Option.some.injEq, Prod.mk.injEq] at hx
      obtain ⟨rfl, rfl⟩ := hx
      refine wpS.of (split_call hl fun l k e => ?_)
      have kp : ∀ b o', s.heap.get? b = some o' → (s.heap.push (lstObj (strValues l).toArray 0)).get? b = some o' := fun b o e => Heap.get?_push_of_some _ e
      have hT := st.I.track (t := .list ((splitL cc x).map .str)) kp (get_size _) st.I.size_le ⟨(strValues l).toArray, 0, Heap.get?_push_size _ rfl, by
        rw [← splits_map e]
        simpa using VRs.strs⟩
      exact fin.ok _ rfl _ _ _ k hT.1 hT.2 ⟨_, rfl, by simp [Gh.track]⟩
    · cases hx
  · -- lower
    obtain rfl : us = [] := ha
    obtain ⟨t, rfl⟩ := hu
    split at hx
    · rename_i x hl
      obtain ⟨rfl, rfl⟩ := ret_some hx
      refine wpS.of (SC.lower (fit_lower (by simp [Str.length]; omega)) ?_)
      rw [lower_eq hl.1]
      exact fin.pure st ⟨_, rfl⟩
    · cases hx
  · -- upper
    obtain rfl : us = [] := ha
    obtain ⟨t, rfl⟩ := hu
    split at hx
    · rename_i x hl
      obtain ⟨rfl, rfl⟩ := ret_some hx
      refine wpS.of (SC.upper (fit_upper (by simp [Str.length]; omega)) ?_)
      rw [upper_eq hl.1]
      exact fin.pure st ⟨_, rfl⟩
    · cases hx
  · -- pop
    obtain ⟨v, rfl, t', rfl⟩ := ha.one
    obtain ⟨a, rfl, l⟩ := hu
    split at hx
    · rename_i i v vs e
      split at hx
      · rename_i hl
        obtain ⟨rfl, rfl⟩ := ret_some hx
        obtain ⟨x', l', items, n, hx', z⟩ := st.I.so _ _ e
        rw [l] at l'; cases l'
        obtain ⟨y, ys, e2, z1, z2⟩ := z
        have hs : items.size = ys.length + 1 := by rw [← Array.length_toList, e2]; rfl
        have hy : items[0]? = some y := by rw [← Array.getElem?_toList, e2]; rfl
        have hl' := z2.length
        show wpS _ _ (call (.builtin "list.pop") _) _ _ _
        refine wpS.of (call_meets F.slot_list_pop ⟨_, hx', rfl⟩ F.entry_list_pop (F.args_list_pop_2 _ _) (MeetsSeq.list_pop_at a items n 0 t' 0 y (by decide) (by simp [seqIndex?, hs]) hy (by rw [sizeLine_eq]; omega)) ⟨hx', ?_⟩)
        have hs2 : Heap.SameBut a s.heap (s.heap.update a (Obj.mapSeq fun xs => xs.eraseIdxIfInBounds 0)) := Heap.SameBut.update ..
        have hn2 : (s.heap.update a (Obj.mapSeq fun xs => xs.eraseIdxIfInBounds 0)).get? a = some (Obj.mapSeq (fun xs => xs.eraseIdxIfInBounds 0) (lstObj items n)) := Heap.get?_update_self _ hx' rfl
        have J := st.I.set (t := .list vs) l hs2 ⟨_, _, hn2, ?_⟩
        · exact fin.ok _ rfl y g _ s.toks (Gh.le.refl g) J (z1.mono g.bare_le)
        · have : (items.eraseIdxIfInBounds 0).toList = ys := by
            rw [Array.eraseIdxIfInBounds, dif_pos (by omega), Array.toList_eraseIdx, e2]; rfl
          rw [this]; exact z2
      · cases hx
    · cases hx
  · -- list.index
    obtain ⟨v, rfl, t', rfl⟩ := ha.one
    obtain ⟨a, rfl, l⟩ := hu
    split at hx
    · rename_i vs e
      split at hx <;> try (cases hx)
      rename_i hz0
      obtain ⟨v, hv, rfl, rfl⟩ := opt_some hx
      simp only [Option.bind_eq_some_iff, Option.map_eq_some_iff] at hv
      obtain ⟨ls, h1, j, h2, rfl⟩ := hv
      obtain ⟨x', l', items, n, hx', z⟩ := st.I.so _ _ e
      rw [l] at l'; cases l'
      obtain ⟨hj, k1, k2⟩ := key_at h1 z h2
      simp only [kindT, e]
      show wpS _ _ (call (.builtin "list.index") _) _ _ _
      have hjs : j < items.size := by rw [← Array.length_toList]; exact hj
      refine wpS.of (call_meets F.slot_list_index ⟨_, hx', rfl⟩ F.entry_list_index (F.args_list_index_2 _ _) (MeetsSeq.list_index a items n _ (isKey _) (key_tests (strs_are h1 z)) j hjs ?_ (by rwa [Array.getElem_toList] at k1) (fun m hm hlt => by have z := k2 m (by rw [Array.length_toList]; exact hm) hlt; rwa [Array.getElem_toList] at z)) ⟨hx', fin.pure st ⟨_, rfl⟩⟩)
      have hzl := z.length
      omega
    · cases hx
  · -- tuple.index
    obtain ⟨v, rfl, t', rfl⟩ := ha.one
    obtain ⟨v, hv, rfl, rfl⟩ := opt_some hx
    simp only [Option.bind_eq_some_iff, Option.map_eq_some_iff] at hv
    obtain ⟨vs, h0, ls, h1, j, h2, rfl⟩ := hv
    obtain ⟨x, items, n, rfl, f, z⟩ := tup_at X st.I hu h0
    have hx' := st.I.fz _ _ f
    have hk : kindT σ' o = 3 := by
      unfold tupItems at h0
      split at h0 <;> first | rfl | cases h0
    rw [hk]
    obtain ⟨hj, k1, k2⟩ := key_at h1 z h2
    have hjs : j < items.size := by rw [← Array.length_toList]; exact hj
    exact wpS.of (tuple_index hx' (key_tests (strs_are h1 z)) hjs (by rwa [Array.getElem_toList] at k1) (fun m hm hlt => by have z := k2 m (by rw [Array.length_toList]; exact hm) hlt; rwa [Array.getElem_toList] at z) (fin.pure st ⟨_, rfl⟩))
  · -- append
    obtain ⟨v, rfl, t', rfl⟩ := ha.one
    obtain ⟨a, rfl, l⟩ := hu
    split at hx
    · rename_i i cc _ b e
      split at hx
      · rename_i hl
        obtain ⟨rfl, rfl⟩ := ret_some hx
        obtain ⟨x', l', hx'⟩ := st.I.so _ _ e
        rw [l] at l'; cases l'
        refine barr_append hx' hl.1 hl.2.1 (by rw [sizeLine_eq, List.size_toArray]; omega) ?_
        have hs2 : Heap.SameBut a s.heap (s.heap.update a (Obj.mapBytearray (·.push cc.toNat.toUInt8))) := Heap.SameBut.update ..
        have hn2 := Heap.get?_update_self (Obj.mapBytearray (·.push cc.toNat.toUInt8)) hx' rfl
        have J := st.I.set (t := .barr (b ++ [UInt8.ofNat cc.toNat])) l hs2 (by
          show Heap.get? _ a = _
          rw [hn2]
          simp [Obj.mapBytearray])
        exact fin.ok _ rfl .none g _ s.toks (Gh.le.refl g) J rfl
      · cases hx
    · cases hx
  · -- join
    obtain ⟨v, rfl, a, rfl, l⟩ := ha.one
    obtain ⟨t, rfl⟩ := hu
    split at hx
    · rename_i vs e
      obtain ⟨v, hv, rfl, rfl⟩ := opt_some hx
      unfold joinA at hv
      simp only [Option.bind_eq_some_iff] at hv
      obtain ⟨ls, h1, hv⟩ := hv
      split at hv
      · rename_i hc
        cases hv
        obtain ⟨x', l', items, n, hx', z⟩ := st.I.so _ _ e
        rw [l] at l'; cases l'
        refine wpS.of (join_listW (x := ⟨#[]⟩) (isList_of hx') (strs_are h1 z) (by simp [Str.length]) ?_ fun t' k => fin.pure st ⟨t', ?_⟩)
        · have : ∀ ls : List (List Nat), (∀ x ∈ ls, x.length = 1) → ((ls.map fun x => (⟨x.toArray⟩ : Str)).map (·.length)).sum = ls.length := by
            intro ls
            induction ls with
            | nil => intro _; rfl
            | cons x r ih =>
              intro h
              simp only [List.map_cons, List.sum_cons, ih fun y hy => h y (List.mem_cons_of_mem _ hy), List.length_cons]
              have := h x List.mem_cons_self
              simp only [Str.length, List.size_toArray]
              omega
          rw [this ls (by simpa using hc.1)]
          simp only [List.length_map]
          omega
        · rw [join_one]
      · cases hv
    · cases hx
  · cases hx
end
end Mine
end

section
open PySem PySem.W PyProof.Rows
set_option maxRecDepth 100000
namespace Mine

section
variable {g₀ : Heap} {g : Gh} {fr : List Fm} {σ : List TO} {h h' : Heap}
/-- what the ghost speaks of stands still -/
theorem Inv.same (I : Inv g₀ g fr σ h) (kz : ∀ b o, g.frz b = some o → h'.get? b = some o) (kf : ∀ p ∈ fr, (∃ o, h.get? p.1 = some o ∧ p.2 o) → ∃ o, h'.get? p.1 = some o ∧ p.2 o)
    (kt : ∀ i a t, σ[i]? = some t → g.loc i = some a → TR g h a t → TR g h' a t) : Inv g₀ g fr σ h' where
  base := I.base
  fz := kz
  fs := fun p hp => ⟨kf p hp (I.fs p hp).1, (I.fs p hp).2⟩
  nd := I.nd
  so := fun i t e => let ⟨a, l, r⟩ := I.so i t e; ⟨a, l, kt i a t e l r⟩
  lo := I.lo
  inj := I.inj

theorem FrIn.fun {envs : List Env} (F : FrIn fr envs) (I : Inv g₀ g fr σ h) : h.FunFrames {} envs := by
  induction envs with
  | nil => trivial
  | cons env rest ih =>
    obtain ⟨hk, L, P, hf, hm, hs⟩ := F env (.head _)
    obtain ⟨o, ho, hP⟩ := (I.fs _ hm).1
    exact ⟨hk, ⟨L, o, hf, by simp [Heap.get?], ho, hs.1 o hP⟩, ih fun env' he => F env' (.tail _ he)⟩

theorem Inv.frame_slots {envs : List Env} (F : FrIn fr envs) (I : Inv g₀ g fr σ h) {p : Fm} (hp : p ∈ fr) (hm : p.1 ∈ envs.filterMap (·.frame)) : Slt p.2 := by
  obtain ⟨env, he, hf⟩ := List.mem_filterMap.mp hm
  obtain ⟨_, L, P, hf', hm', hs⟩ := F env he
  rw [hf] at hf'
  cases hf'
  have : p = (p.1, P) := by
    have nd := I.nd
    clear F I hm he hs hf
    induction fr with
    | nil => cases hp
    | cons q r ih =>
      rw [List.map_cons, List.nodup_cons] at nd
      rcases List.mem_cons.mp hp with rfl | hp <;> rcases List.mem_cons.mp hm' with q' | hm'
      · exact q'.symm
      · exact absurd (List.mem_map.mpr ⟨_, hm', rfl⟩) nd.1
      · exact absurd (List.mem_map.mpr ⟨_, hp, by rw [← q']⟩) nd.1
      · exact ih hp hm' nd.2
  rw [this]; exact hs

/-- of the old things only e, T and the frames' slots may change -/
structure Chg (S : List Addr) (e : Addr) (T : Option Addr) (h h' : Heap) : Prop where
  keep : ∀ b o, b ≠ e → T ≠ some b → b ∉ S → h.get? b = some o → h'.get? b = some o
  slots : ∀ b o, b ∈ S → h.get? b = some o → ∃ sl, h'.get? b = some { o with slots := sl }
  ex : ∀ o vs, h.get? e = some o → o.data = .fields vs → ∃ vs', h'.get? e = some { o with data := .fields vs' } ∧ vs'[2]? = vs[2]?

theorem Inv.chg {envs : List Env} {e i : Nat} {T : Option Addr} (I : Inv g₀ g fr σ h) (F : FrIn fr envs) (l : g.loc i = some e) (hσ : Rsd σ i) (hT : ∀ b, T = some b → g.frz b = none ∧ ¬ g.mut fr b) (c : Chg (envs.filterMap (·.frame)) e T h h')
    (hx : ∃ o vs, h.get? e = some o ∧ o.data = .fields vs) : Inv g₀ g fr σ h' := by
  have inS : ∀ b, b ∈ envs.filterMap (·.frame) → b ∈ fr.map (·.1) := fun b hb => by
    obtain ⟨env, he, hf⟩ := List.mem_filterMap.mp hb
    obtain ⟨_, L, P, hf', hm', _⟩ := F env he
    rw [hf] at hf'; cases hf'
    exact List.mem_map.mpr ⟨_, hm', rfl⟩
  refine I.same (fun b o z => c.keep b o (fun q => ?_) (fun q => ?_) (fun q => ?_) (I.fz b o z)) (fun p hp ⟨o, ho, hP⟩ => ?_) fun j a t hj la r => ?_
  · rw [q, (I.lo i e l).2.1] at z; cases z
  · rw [(hT b q).1] at z; cases z
  · have := I.mut_none (.inl (inS b q)); rw [this] at z; cases z
  · by_cases hm : p.1 ∈ envs.filterMap (·.frame)
    · obtain ⟨sl, hs⟩ := c.slots _ _ hm ho
      exact ⟨_, hs, (I.frame_slots F hp hm).2 o sl hP⟩
    · refine ⟨o, c.keep _ _ (fun q => ?_) (fun q => (hT _ q).2 (.inl (List.mem_map.mpr ⟨p, hp, rfl⟩))) hm ho, hP⟩
      exact (I.lo i e l).2.2.1 (List.mem_map.mpr ⟨p, hp, q⟩)
  · by_cases hae : a = e
    · subst hae
      obtain ⟨o, vs, ho, hd⟩ := hx
      obtain ⟨vs', hv, h2'⟩ := c.ex o vs ho hd
      obtain ⟨C, k, b, hσ, hb⟩ := hσ
      obtain rfl := I.inj i j a l la
      rw [hj] at hσ; cases hσ
      obtain ⟨dx, vs2, sl, h1, t1, v1, h2, t2, t2', n, e1, f1, z⟩ := r
      rw [ho] at e1; cases e1
      cases hd
      refine ⟨dx, vs', sl, h1, t1, v1, h2, t2, t2', n, hv, f1, ?_⟩
      cases b with
      | fresh => exact absurd rfl hb
      | bare => exact h2'.trans z
      | any => trivial
    · exact r.mono (Gh.le.refl g) fun o z => c.keep a o hae (fun q => (hT a q).2 (.inr ⟨j, la⟩)) (fun q => (I.lo j a la).2.2.1 (inS a q)) z
end
end Mine
end

section
open PySem PySem.W PyProof.Rows
set_option maxRecDepth 100000
namespace Mine

section
variable {M : Model} {A : Around} {E : Value → Shared → Prop} {s : Shared} {g₀ : Heap} {g : Gh} {fr : List Fm} {σ : List TO}

theorem Chg.trans {S : List Addr} {e : Addr} {T : Option Addr} {h₁ h₂ h₃ : Heap} (x : Chg S e T h₁ h₂) (y : Chg S e T h₂ h₃) : Chg S e T h₁ h₃ where
  keep := fun b o h1 h2 h3 z => y.keep b o h1 h2 h3 (x.keep b o h1 h2 h3 z)
  slots := fun b o hb z => let ⟨_, e1⟩ := x.slots b o hb z; let ⟨sl, e2⟩ := y.slots b _ hb e1; ⟨sl, e2⟩
  ex := fun o vs z hd => let ⟨_, e1, z1⟩ := x.ex o vs z hd; let ⟨vs', e2, z2⟩ := y.ex _ _ e1 rfl; ⟨vs', e2, z2.trans z1⟩

/-- the entry is made and hung to the exception -/
theorem entry_ok {env : Env} {outer : List Env} {L e i : Addr} {oe : Obj} {vs : Array Value} {head : Value} {hadNext : Bool} {Q : Unit → Shared → Prop}
    (hfr : A.frames = some (env :: outer)) (hf : env.frame = some L) (F : FrIn fr (env :: outer)) (I : Inv g₀ g fr σ s.heap) (l : g.loc i = some e) (hσ : Rsd σ i)
    (he : s.heap.get? e = some oe) (hd : oe.data = .fields vs) (hz : vs.size = 6)
    (q : ∀ h', Inv g₀ g fr σ h' → ExTr g fr h' e (rawInt L) → Q () { s with heap := h' }) :
    wpAny M A (do let a ← frameOf env; let pl ← entryPlaceOf L hadNext; let b ← EntryCells.newEntry head a .none (rawInt L) .none pl; setField (.ref e) 1 b) Q E s := by
  have hl := F.fun I
  have heS : e ∉ (env :: outer).filterMap (·.frame) := fun hm => by
    obtain ⟨env', he', hf'⟩ := List.mem_filterMap.mp hm
    obtain ⟨_, L', P, hf2, hm', _⟩ := F env' he'
    rw [hf'] at hf2; cases hf2
    exact (I.lo i e l).2.2.1 (List.mem_map.mpr ⟨_, hm', rfl⟩)
  refine wpAny_bind (wpAny_frameOf_fun hfr hl hf fun h₁ hs₁ => ?_)
  refine wpAny_bind (wpAny_entryPlaceOf fun pl hpl => ?_)
  unfold EntryCells.newEntry newFields
  refine wpAny_bind (wpAny_newObj_type ?_ (hpl.sizeOk5 _ _ _ _ _))
  have he₁ : h₁.get? e = some oe := (hs₁.2.1 e heS).trans he
  have he₂ := Heap.get?_push_of_some (h := h₁) { cls := .type "traceback", dict := none, data := .fields ([head, .ref L, .none, rawInt L, .none] ++ (if pl.isEmpty then List.replicate 6 Value.none else pl)).toArray } he₁
  refine wpAny_setField he₂ hd (by omega) ?_
  have hTe : h₁.objs.size ≠ e := Nat.ne_of_gt (Heap.lt_size he₁)
  have hd₃ := Obj.data_mapFields hd (·.setIfInBounds 1 (Value.ref h₁.objs.size))
  have he₃ := Heap.get?_update_self (Obj.mapFields (·.setIfInBounds 1 (Value.ref h₁.objs.size))) he₂ (Obj.isFreed_of_fields hd₃)
  have hT₃ := (Heap.get?_update_other (h₁.push { cls := .type "traceback", dict := none, data := .fields ([head, .ref L, .none, rawInt L, .none] ++ (if pl.isEmpty then List.replicate 6 Value.none else pl)).toArray })
    (Obj.mapFields (·.setIfInBounds 1 (Value.ref h₁.objs.size))) (Ne.symm hTe)).trans (Heap.get?_push_size h₁ rfl)
  have hmap : Obj.mapFields (·.setIfInBounds 1 (Value.ref h₁.objs.size)) oe = { oe with data := .fields (vs.setIfInBounds 1 (Value.ref h₁.objs.size)) } := by
    obtain ⟨c, dd, dt, sl⟩ := oe
    have hd' : dt = .fields vs := hd
    subst hd'
    rfl
  have c : Chg ((env :: outer).filterMap (·.frame)) e none s.heap ((h₁.push { cls := .type "traceback", dict := none, data := .fields ([head, .ref L, .none, rawInt L, .none] ++ (if pl.isEmpty then List.replicate 6 Value.none else pl)).toArray }).update e (Obj.mapFields (·.setIfInBounds 1 (Value.ref h₁.objs.size)))) := by
    refine ⟨fun b o h1 _ h3 z => ?_, fun b o hb z => ?_, fun o vs' z hd' => ?_⟩
    · rw [Heap.get?_update_other _ _ (Ne.symm h1)]
      exact Heap.get?_push_of_some _ ((hs₁.2.1 b h3).trans z)
    · obtain ⟨sl, z1⟩ := hs₁.2.2 b o z
      have hbe : b ≠ e := fun q => heS (q ▸ hb)
      exact ⟨sl, by rw [Heap.get?_update_other _ _ (Ne.symm hbe)]; exact Heap.get?_push_of_some _ z1⟩
    · rw [he] at z; cases z
      rw [hd] at hd'; cases hd'
      exact ⟨vs.setIfInBounds 1 (Value.ref h₁.objs.size), he₃.trans (by rw [hmap]), by simp⟩
  have J := I.chg F l hσ (fun b hb => by cases hb) c ⟨oe, vs, he, hd⟩
  have hnew : s.heap.get? h₁.objs.size = none := by
    cases z : s.heap.get? h₁.objs.size with
    | none => rfl
    | some o => have := Heap.lt_size z; rw [hs₁.1] at this; exact absurd this (Nat.lt_irrefl _)
  refine q _ J ⟨_, _, h₁.objs.size, _, _, he₃, hd₃, ?_, ?_, ?_, fun m => ?_, hT₃, rfl, ?_⟩
  · simp [hz]
  · simp [hz]
  · cases z : g.frz h₁.objs.size with
    | none => rfl
    | some o => rw [I.fz _ _ z] at hnew; cases hnew
  · obtain ⟨o, z⟩ := I.mut_here m
    rw [z] at hnew; cases hnew
  · simp

theorem note_ok {env : Env} {outer : List Env} {L e i : Addr} {Q : Unit → Shared → Prop} (hfr : A.frames = some (env :: outer)) (hf : env.frame = some L) (F : FrIn fr (env :: outer)) (I : Inv g₀ g fr σ s.heap) (l : g.loc i = some e) (hσ : Rsd σ i)
    (hx : ExSt g fr L s.heap e) (q : ∀ h', Inv g₀ g fr σ h' → ExTr g fr h' e (rawInt L) → Q () { s with heap := h' }) : wpAny M A (noteFrame (.ref e) env) Q E s := by
  unfold noteFrame
  simp only [hf]
  rcases hx with ⟨oe, vs, he, hd, hz, h1⟩ | ⟨oe, vs, T, oT, ts, he, hd, hz, h1, hg, hm, hT, hdT, h3⟩ | ⟨oe, vs, T, oT, ts, he, hd, hz, h1, hg, hm, hT, hdT, h3⟩
  · refine wpAny_bind (wpAny_field he hd h1 ?_)
    rw [if_neg (by decide)]
    exact entry_ok hfr hf F I l hσ he hd hz q
  · refine wpAny_bind (wpAny_field he hd h1 ?_)
    rw [if_pos (show (Value.ref T != Value.none) = true from by simp)]
    refine wpAny_bind (wpAny_field hT hdT h3 ?_)
    rw [if_neg (show ¬ ((Value.none == rawInt L) = true) from by simp [rawInt])]
    refine wpAny_bind (wpAny_setField hT hdT (Array.getElem?_eq_some_iff.mp h3).1 ?_)
    have hTe : T ≠ e := fun z => hm (z ▸ .inr ⟨i, l⟩)
    have c : Chg ((env :: outer).filterMap (·.frame)) e (some T) s.heap (s.heap.update T (Obj.mapFields (·.setIfInBounds 3 Value.none))) := by
      refine ⟨fun b o _ h2 _ z => ?_, fun b o hb z => ?_, fun o vs' z hd' => ?_⟩
      · rw [Heap.get?_update_other _ _ (fun q => h2 (by rw [q]))]; exact z
      · have : T ≠ b := fun q => hm (.inl (by
          obtain ⟨env', he', hf'⟩ := List.mem_filterMap.mp hb
          obtain ⟨_, L', P, hf2, hm', _⟩ := F env' he'
          rw [hf'] at hf2; cases hf2
          exact q ▸ List.mem_map.mpr ⟨_, hm', rfl⟩))
        exact ⟨o.slots, by rw [Heap.get?_update_other _ _ this]; exact z⟩
      · refine ⟨vs', ?_, rfl⟩
        rw [Heap.get?_update_other _ _ hTe, z, ← hd']
    have J := I.chg F l hσ (fun b hb => by cases hb; exact ⟨hg, hm⟩) c ⟨oe, vs, he, hd⟩
    exact entry_ok (s := { s with heap := s.heap.update T (Obj.mapFields (·.setIfInBounds 3 Value.none)) }) hfr hf F J l hσ ((Heap.get?_update_other _ _ hTe).trans he) hd hz q
  · refine wpAny_bind (wpAny_field he hd h1 ?_)
    rw [if_pos (show (Value.ref T != Value.none) = true from by simp)]
    refine wpAny_bind (wpAny_field hT hdT h3 ?_)
    rw [if_pos (show (rawInt L == rawInt L) = true from by simp)]
    exact wpAny_pure (q s.heap I ⟨oe, vs, T, oT, ts, he, hd, hz, h1, hg, hm, hT, hdT, h3⟩)

theorem flight_ok {fl : Value} {to : Option Addr} {e i : Addr} {envs : List Env} {Q : Unit → Shared → Prop} (F : FrIn fr envs) (I : Inv g₀ g fr σ s.heap) (l : g.loc i = some e) (hσ : Rsd σ i) (hx : ExTr g fr s.heap e fl)
    (q : ∀ h', Inv g₀ g fr σ h' → ExTr g fr h' e (to.elim .none fun f => rawInt f) → Q () { s with heap := h' }) : wpAny M A (setFlight (.ref e) to) Q E s := by
  obtain ⟨oe, vs, T, oT, ts, he, hd, hz, h1, hg, hm, hT, hdT, h3⟩ := hx
  have hsz3 : 3 < ts.size := (Array.getElem?_eq_some_iff.mp h3).1
  have hTe : T ≠ e := fun z => hm (z ▸ .inr ⟨i, l⟩)
  unfold setFlight
  refine wpAny_bind (wpAny_field he hd h1 ?_)
  rw [if_pos (show (Value.ref T != Value.none) = true from by simp)]
  refine wpAny_setField hT hdT hsz3 ?_
  have c : Chg (envs.filterMap (·.frame)) e (some T) s.heap (s.heap.update T (Obj.mapFields (·.setIfInBounds 3 (to.elim Value.none fun f => rawInt f)))) := by
    refine ⟨fun b o _ h2 _ z => ?_, fun b o hb z => ?_, fun o vs' z hd' => ?_⟩
    · rw [Heap.get?_update_other _ _ (fun q => h2 (by rw [q]))]; exact z
    · have : T ≠ b := fun q => hm (.inl (by
        obtain ⟨env', he', hf'⟩ := List.mem_filterMap.mp hb
        obtain ⟨_, L', P, hf2, hm', _⟩ := F env' he'
        rw [hf'] at hf2; cases hf2
        exact q ▸ List.mem_map.mpr ⟨_, hm', rfl⟩))
      exact ⟨o.slots, by rw [Heap.get?_update_other _ _ this]; exact z⟩
    · refine ⟨vs', ?_, rfl⟩
      rw [Heap.get?_update_other _ _ hTe, z, ← hd']
  have J := I.chg F l hσ (fun b hb => by cases hb; exact ⟨hg, hm⟩) c ⟨oe, vs, he, hd⟩
  exact q _ J ⟨oe, vs, T, _, _, (Heap.get?_update_other _ _ hTe).trans he, hd, hz, h1, hg, hm, Heap.get?_update_self _ hT (Obj.isFreed_of_fields (Obj.data_mapFields hdT _)), Obj.data_mapFields hdT _, by simp [hsz3]⟩

theorem leaving_ok {env : Env} {outer : List Env} {L e i : Addr} {Q : Unit → Shared → Prop} (hfr : A.frames = some (env :: outer)) (hf : env.frame = some L) (F : FrIn fr (env :: outer)) (I : Inv g₀ g fr σ s.heap) (l : g.loc i = some e) (hσ : Rsd σ i)
    (hx : ExSt g fr L s.heap e) (q : ∀ h', Inv g₀ g fr σ h' → ExTr g fr h' e .none → Q () { s with heap := h' }) : wpAny M A (leaving env (.ref e)) Q E s := by
  unfold leaving
  refine wpAny_bind (note_ok hfr hf F I l hσ hx fun h' I' t => ?_)
  exact flight_ok (s := { s with heap := h' }) (to := none) F I' l hσ t q
end
end Mine
end

section
open PySem PySem.W PyProof.Rows
set_option maxRecDepth 100000
namespace Mine
theorem lookup_zip_some : ∀ {ns : List Str} {us : List Value} {n : Str}, n ∈ ns → us.length = ns.length → ((ns.zip us).lookup n).isSome = true
  | [], _, _, h, _ => nomatch h
  | m :: ns, [], _, _, e => by simp at e
  | m :: ns, u :: us, n, h, e => by
    simp only [List.zip_cons_cons, List.lookup_cons]
    cases hb : n == m with
    | true => rfl
    | false =>
      have : n ≠ m := by simpa using hb
      exact lookup_zip_some (by simpa [this] using h) (by simpa using e)

theorem filter_zip : ∀ {ns : List Str} {us : List Value}, ns.Nodup → us.length = ns.length → ns.filterMap (fun n => Option.map (fun x => (n, x)) (List.lookup n (ns.zip us))) = ns.zip us
  | [], us, _, _ => by simp
  | m :: ns, [], _, e => by simp at e
  | m :: ns, u :: us, nd, e => by
    rw [List.nodup_cons] at nd
    simp only [List.zip_cons_cons, List.filterMap_cons, List.lookup_cons, beq_self_eq_true, Option.map_some]
    congr 1
    have key : ∀ l : List Str, m ∉ l → l.filterMap (fun n => Option.map (fun x => (n, x)) (match n == m with | true => some u | false => List.lookup n (ns.zip us))) = l.filterMap (fun n => Option.map (fun x => (n, x)) (List.lookup n (ns.zip us))) := by
      intro l
      induction l with
      | nil => intro _; rfl
      | cons k l ih =>
        intro hm
        have : (k == m) = false := beq_eq_false_iff_ne.mpr fun q => hm (by rw [q]; exact List.mem_cons_self)
        rw [List.filterMap_cons, List.filterMap_cons, ih fun q => hm (List.mem_cons_of_mem _ q), this]
    exact (key ns nd.1).trans (filter_zip nd.2 (by simpa using e))
theorem bind_plain {fd : FuncData} {us : List Value} (h1 : fd.params.posonlyargs = []) (h2 : fd.params.kwonlyargs = []) (h3 : fd.params.vararg = none) (h4 : fd.params.kwarg = none) (hd : fd.defaults = .none) (hl : us.length = fd.params.args.length) (hn : (fd.params.args.map (·.arg)).Nodup) :
    bindArgs fd ⟨us, []⟩ = pure ((fd.params.args.map (·.arg)).zip us) := by
  unfold bindArgs
  have hm : (((fd.params.args.map (·.arg)).take (fd.params.args.map (·.arg)).length).filter fun n => (((fd.params.args.map (·.arg)).zip us).lookup n).isNone) = [] := by
    rw [List.filter_eq_nil_iff]
    intro n hn
    rw [List.take_length] at hn
    have := lookup_zip_some hn (by simpa using hl)
    simp only [Option.isNone_iff_eq_none]
    intro e
    rw [e] at this; cases this
  simp only [h1, h2, h3, h4, hd, List.map_nil, List.nil_append, List.forIn_nil, pure_bind, List.append_nil]
  have hs : seqItems? .none = pure none := rfl
  simp only [hs, pure_bind, Option.getD_none, List.drop_nil, List.zip_nil_right, List.forIn_nil, List.length_nil, Nat.sub_zero, hm]
  have hg : (decide (us.length > (fd.params.args.map (·.arg)).length) && (none : Option Arg).isNone) = false := by simp [hl]
  simp only [hg]
  show pure (List.filterMap (fun n => Option.map (fun x => (n, x)) (List.lookup n ((fd.params.args.map (·.arg)).zip us))) (fd.params.args.map (·.arg))) = _
  rw [filter_zip hn (by simpa using hl)]

/-- what a flow hands on -/
noncomputable def flowV : Flow → Value
  | .ret v => v
  | _ => .none

structure FinS (g₀ : Heap) (c : Cx) (fr : List Fm) (r : Out × Lo × List TO) (g : Gh) (s : Shared) (Q : Flow → Shared → Prop) (E : Value → Shared → Prop) : Prop where
  nxt : ∀ m' σ', r = (.nxt, m', σ') → ∀ mm' g' h' tk, g.le g' → Inv g₀ g' ((c.L, frmP mm') :: fr) σ' h' → MR g' c.locs m' mm' → Q .next { s with heap := h', toks := tk }
  ret : ∀ v m' σ', r = (.ret v, m', σ') → ∀ mm' u g' h' tk, g.le g' → Inv g₀ g' ((c.L, frmP mm') :: fr) σ' h' → VR g' v u → Q (.ret u) { s with heap := h', toks := tk }
  ex : ∀ i m' σ', r = (.exc i, m', σ') → ∀ mm' e g' h' tk, g.le g' → Inv g₀ g' ((c.L, frmP mm') :: fr) σ' h' → MR g' c.locs m' mm' → g'.loc i = some e → Rsd σ' i → ExSt g' ((c.L, frmP mm') :: fr) c.Lf h' e → E (.ref e) { s with heap := h', toks := tk }

/-- the tree t does what x says -/
noncomputable def SubS (prog : Program) (w : World) (g₀ : Heap) (c : Cx) (fr : List Fm) (d : Nat) (t : Sem Flow) (x : Lo → List TO → RS) : Prop :=
  ∀ {m σ r g mm s Q E}, x m σ = some r → St g₀ c fr d m σ g mm s.heap → FinS g₀ c fr r g s Q E → wpS (model prog w) c.A t Q E s

section
variable {prog : Program} {w : World} {A : Around} {E : Value → Shared → Prop} {R : Result → Shared → Prop} {s : Shared}

theorem codeS_func {body : List Stmt} {env : Env}
    (h : wpS (model prog w) (A.deeper env) (execs body env) (fun f s' => R (.ok (.ret (flowV f))) s') (fun e s' => wpS (model prog w) (A.deeper env) (leaving env e) (fun _ s'' => R (.error e) s'') (fun e' s'' => R (.error e') s'') s') s) :
    codeS (model prog w) A (.func body env) R s := by
  refine codeS_of_tree rfl ?_
  show wpS _ (A.deeper env) (do point; match ← (execs body env).onRaise (leaving env) with | .ret v => PySem.ret v | _ => PySem.ret .none) _ _ s
  refine wpS_bind (wpS_point (wpS_bind (wpS_onRaise (wpS_mono h (fun f s' h' => ?_) fun _ _ h' => h'))))
  cases f <;> exact wpS_pure h'

theorem codeS_def {a : Addr} {us : List Value} {o : Obj} {fd : FuncData} {body : List Stmt} {binds : List (Str × Value)} (hroom : A.depth < recursionLimit) (ho : s.heap.get? a = some o) (hd : o.data = .func fd) (hlim : s.heap.NoLimit)
    (hcd : s.heap.CodeRec fd.code fd.qualname) (hbody : fd.body = .stmts body) (hbind : bindArgs fd ⟨us, []⟩ = pure binds) (hcell : ∀ x ∈ fd.scope.names, x.2 ≠ .cell) (hloc : ∀ x ∈ binds, fd.scope.names.lookup x.1 = some .local)
    (hco : fd.scope.isCoroutine = false) (hgen : fd.scope.isGenerator = false) (hk : fd.scope.kind = .function)
    (h : ∀ h₀, h₀.Ns s.heap.objs.size (fun x => binds.reverse.lookup x) → (∀ b o, s.heap.get? b = some o → h₀.get? b = some o) →
      wpS (model prog w) (A.deeper (callEnv fd s.heap.objs.size a)) (execs body (callEnv fd s.heap.objs.size a)) (fun f s' => R (.ok (.ret (flowV f))) s')
        (fun e s' => wpS (model prog w) (A.deeper (callEnv fd s.heap.objs.size a)) (leaving (callEnv fd s.heap.objs.size a) e) (fun _ s'' => R (.error e) s'') (fun e' s'' => R (.error e') s'') s') { s with heap := h₀, toks := s.toks + binds.length }) :
    codeS (model prog w) A (.call (.ref a) ⟨us, []⟩) R s := by
  refine codeS_of_tree rfl ?_
  show wpS _ A.in1 (callAny (.ref a) ⟨us, []⟩) _ _ s
  simp only [callAny]
  refine wpS_bind (wpS_load ho ?_)
  obtain ⟨cc, oc, vs, tq, hc, hoc, hdc, hq⟩ := hcd
  simp only [hd, callFunction, hco, hgen, hbody, hc]
  refine wpS_bind (m := field (.ref cc) 1) (wpS.of (wpAny_field hoc hdc hq (wpS_bind (wpS_pure ?_))))
  rw [hbind]
  refine wpS_bind (wpS_pure (wpS_bind (wpS.of (wpAny_newFunctionEnv hcell hloc (fun h₀ hns hsb => ?_) hk))))
  have kp : ∀ b o, s.heap.get? b = some o → h₀.get? b = some o := fun b o e => hsb.extBut b o (Nat.ne_of_lt (Heap.lt_size e)) (Heap.get?_push_of_some _ e)
  refine wpS_bind (wpS.of (wpAny_enterFrame (hlim.fresh _ hsb) hroom (wpS_pure ⟨rfl, codeS_func ?_⟩)))
  have := h h₀ hns kp
  rw [callEnv, hc] at this
  exact this
end
end Mine
end

section
open PySem PySem.W PyProof.Rows
set_option maxRecDepth 100000
namespace Mine

theorem lookup_of_mem : ∀ {l : List (Str × Value)} {x : Str} {u : Value}, (l.map (·.1)).Nodup → (x, u) ∈ l → l.lookup x = some u
  | [], _, _, _, h => nomatch h
  | (y, v) :: l, x, u, nd, h => by
    rw [List.map_cons, List.nodup_cons] at nd
    rw [List.lookup_cons]
    rcases List.mem_cons.mp h with q | h
    · cases q; simp
    · have : (x == y) = false := beq_eq_false_iff_ne.mpr fun q => nd.1 (q ▸ List.mem_map.mpr ⟨_, h, rfl⟩)
      rw [this]
      exact lookup_of_mem nd.2 h
theorem zip_lookup {ns : List Str} {us : List Value} {i : Nat} {x : Str} {u : Value} (nd : ns.Nodup) (hl : us.length = ns.length) (hx : ns[i]? = some x) (hu : us[i]? = some u) : (ns.zip us).reverse.lookup x = some u := by
  have hk : (ns.zip us).map (·.1) = ns := by rw [List.map_fst_zip]; omega
  refine lookup_of_mem ?_ (List.mem_reverse.mpr (List.mem_of_getElem? (i := i) ?_))
  · rw [List.map_reverse, hk]; unfold List.Nodup; rw [List.pairwise_reverse]; exact nd.imp fun h => Ne.symm h
  · rw [List.getElem?_zip_eq_some]; exact ⟨hx, hu⟩

theorem cF_some {K : Frag} {a : Addr} {np nl : Nat} {ib : List IS} (h : cF K a = some ⟨np, nl, ib⟩) : ∃ oc od fd sl body, K.lookup a = some ⟨oc, od, .func fd, sl⟩ ∧ fd.body = .stmts body ∧ okF K fd = true ∧ cSs K 40 (fd.scope.names.map (·.1)) fd.scope body = some ib ∧ np = fd.params.args.length ∧ nl = fd.scope.names.length := by
  unfold cF at h
  split at h
  · rename_i oc od fd sl hl
    split at h
    · rename_i body hb
      split at h
      · rename_i ok
        simp only [Option.map_eq_some_iff, Fn.mk.injEq] at h
        obtain ⟨b, hc, h1, h2, rfl⟩ := h
        exact ⟨oc, od, fd, sl, body, hl, hb, ok, hc, h1.symm, h2.symm⟩
      · cases h
    · cases h
  · cases h

structure FdOk (K : Frag) (fd : FuncData) : Prop where
  p1 : fd.params.posonlyargs = []
  p2 : fd.params.kwonlyargs = []
  p3 : fd.params.vararg = none
  p4 : fd.params.kwarg = none
  names : (fd.scope.names.map (·.1)).take fd.params.args.length = fd.params.args.map (·.arg)
  nd : (fd.scope.names.map (·.1)).Nodup
  co : fd.scope.isCoroutine = false
  gen : fd.scope.isGenerator = false
  kind : fd.scope.kind = .function
  cell : ∀ x ∈ fd.scope.names, x.2 ≠ .cell
  loc : ∀ a ∈ fd.params.args, fd.scope.names.lookup a.arg = some .local
  code : codeIn K fd.code fd.qualname = true
  glob : fd.globals = mainGlobals
  blt : fd.builtins = builtinsNs
  dfl : fd.defaults = .none
theorem okF_ok {K : Frag} {fd : FuncData} (h : okF K fd = true) : FdOk K fd := by
  unfold okF paramsPlain at h
  simp only [Bool.and_eq_true, List.isEmpty_iff, Option.isNone_iff_eq_none, beq_iff_eq, Bool.not_eq_true', decide_eq_true_eq, List.all_eq_true, bne_iff_ne, ne_eq] at h
  obtain ⟨⟨⟨⟨⟨⟨⟨⟨⟨⟨⟨⟨⟨⟨⟨p1, p3⟩, p2⟩, p4⟩, nm⟩, nd⟩, co⟩, gen⟩, kind⟩, cell⟩, loc⟩, code⟩, glob⟩, clo⟩, blt⟩, dfl⟩ := h
  exact ⟨p1, p2, p3, p4, nm, nd, co, gen, kind, cell, loc, code, glob, blt, by split at dfl <;> first | assumption | cases dfl⟩

section
variable {prog : Program} {w : World} {K : Frag} {p : Program} {loose : List Str} {mean : ExcName → Option Value} {mg mb : Str → Option Value} {g₀ : Heap} {c : Cx} {fr : List Fm} {d : Nat} {m : Lo}
  {σ σ' : List TO} {g : Gh} {mm : Str → Option Value} {s : Shared} {Q : Value → Shared → Prop} {E : Value → Shared → Prop}

/-- the context within a called def -/
noncomputable abbrev callCx (A : Around) (fd : FuncData) (L a : Addr) : Cx := ⟨A.deeper (callEnv fd L a), callEnv fd L a, L, L, fd.scope.names.map (·.1), fd.scope⟩

theorem callCx_ok {A : Around} {fd : FuncData} {L a : Addr} (F : FdOk K fd) (hh : A.handled = none) : CxOk (callCx A fd L a) where
  hk := F.kind
  names := rfl
  loc := rfl
  glob := F.glob
  blt := F.blt
  frame := rfl
  nd := F.nd
  hh := hh

theorem Inv.len_le {g₁ : Gh} {σ₁ : List TO} {h h₁ : Heap} {fr₁ : List Fm} (I : Inv g₀ g₁ fr₁ σ₁ h₁) (I' : Inv g₀ g fr σ h) (le : g₁.le g) : σ₁.length ≤ σ.length := by
  rcases Nat.lt_or_ge σ.length σ₁.length with z | z
  · obtain ⟨a, l, _⟩ := I.so σ.length _ (List.getElem?_eq_getElem z)
    exact absurd (I'.lo _ a (le.2 _ _ l)).1 (Nat.lt_irrefl _)
  · exact z

theorem ExTr.drop {q : Fm} {h : Heap} {e : Addr} {fl : Value} (x : ExTr g (q :: fr) h e fl) : ExTr g fr h e fl := by
  obtain ⟨oe, vs, T, oT, ts, h1, h2, h3, h4, h5, h6, r⟩ := x
  refine ⟨oe, vs, T, oT, ts, h1, h2, h3, h4, h5, fun m => h6 ?_, r⟩
  rcases m with m | m
  · exact .inl (by rw [List.map_cons]; exact List.mem_cons_of_mem _ m)
  · exact .inr m

theorem fn_ok {n : Nat} {a : Addr} {as : List AV} {us : List Value} {r : Ex AV} (O : TopOk K p loose mean mg mb g₀) (C : CxOk c)
    (body : ∀ (c' : Cx) (fr' : List Fm), CxOk c' → (∃ outer, c'.A.frames = some (c'.env :: outer)) → ∀ bd ib, cSs K 40 c'.locs c'.sc bd = some ib → SubS prog w g₀ c' fr' d (execs bd c'.env) (fun m σ => evSs K (cF K) n d ib m σ))
    (hx : evFn K (cF K) (n + 1) (d + 1) a as σ = some (r, σ')) (ha : VRs g as us) (st : St g₀ c fr (d + 1) m σ g mm s.heap) (fin : Fin VR g₀ c fr mm r σ' g s Q E) :
    (∃ k, Looks (model prog w) s.heap (keeperOf (.ref a)) k) ∧ wpS (model prog w) c.A (call (.ref a) us) Q E s := by
  rw [evFn_s] at hx
  split at hx
  · rename_i np nl ib hF
    split at hx
    · rename_i hnp
      obtain ⟨oc, od, fd, sl, bd, hl, hb, ok, hcs, rfl, rfl⟩ := cF_some hF
      have F := okF_ok ok
      have ho : s.heap.get? a = some ⟨oc, od, .func fd, sl⟩ := st.I.fz _ _ (st.I.base _ _ (O.X _ _ hl))
      have kpg : ∀ b o, g₀.get? b = some o → s.heap.get? b = some o := fun b o e => st.I.fz _ _ (st.I.base _ _ e)
      refine ⟨⟨.frame, (Looks.ld (part := none) ho).andThen .now⟩, ?_⟩
      have hul : us.length = fd.params.args.length := ha.length.trans hnp.1
      have ndA : (fd.params.args.map (·.arg)).Nodup := by rw [← F.names]; exact F.nd.sublist (List.take_sublist _ _)
      have hbind := bind_plain F.p1 F.p2 F.p3 F.p4 F.dfl hul ndA
      have hR := st.R
      refine wpS_call (codeS_def (by have := hR.1; omega) ho rfl (O.T.nolimit.keeps kpg) ((codeRec_of O.X F.code).keeps kpg) hb hbind F.cell (fun x hx => ?_) F.co F.gen F.kind fun h₀ hns kp => ?_)
      · obtain ⟨i, hi⟩ := List.mem_iff_getElem?.mp hx
        rw [List.getElem?_zip_eq_some] at hi
        obtain ⟨y, hy, e⟩ := List.mem_map.mp (List.mem_of_getElem? hi.1)
        rw [← e]; exact F.loc y hy
      · -- within
        have I0 : Inv g₀ g ((s.heap.objs.size, frmP fun x => ((fd.params.args.map (·.arg)).zip us).reverse.lookup x) :: (c.L, frmP mm) :: fr) σ h₀ := st.I.push kp (get_size _) st.I.size_le (frmP.of hns)
        obtain ⟨envs, hfr, hFr⟩ := st.F
        have hfr' : (callCx c.A fd s.heap.objs.size a).A.frames = some (callEnv fd s.heap.objs.size a :: envs) := by
          show c.A.frames.map _ = _
          rw [hfr]; rfl
        have FrN : ∀ mm', FrIn ((s.heap.objs.size, frmP mm') :: (c.L, frmP mm) :: fr) (callEnv fd s.heap.objs.size a :: envs) := fun mm' env he => by
          rcases List.mem_cons.mp he with rfl | he
          · exact ⟨by show fd.scope.kind ≠ _; rw [F.kind]; decide, _, _, rfl, .head _, Slt.frm _⟩
          · exact hFr.more env he
        have st0 : St g₀ (callCx c.A fd s.heap.objs.size a) ((c.L, frmP mm) :: fr) d (as.map some ++ List.replicate (fd.scope.names.length - fd.params.args.length) none) σ g (fun x => ((fd.params.args.map (·.arg)).zip us).reverse.lookup x) h₀ := by
          refine ⟨I0, fun i x v hi hv => ?_, ⟨_, hfr', FrN _⟩, ?_⟩
          · have hlt : i < as.length := by
              rcases Nat.lt_or_ge i as.length with z | z
              · exact z
              · rw [List.getElem?_append_right (by simpa using z), List.getElem?_replicate] at hv
                split at hv <;> cases hv
            rw [List.getElem?_append_left (by simpa using hlt), List.getElem?_map] at hv
            simp only [Option.map_eq_some_iff] at hv
            obtain ⟨v', hv', e⟩ := hv
            cases e
            obtain ⟨u, hu, hr⟩ := ha.get hv'
            have hi' : (fd.params.args.map (·.arg))[i]? = some x := by
              rw [← F.names, List.getElem?_take, if_pos (by omega)]
              exact hi
            exact ⟨u, zip_lookup ndA (by simpa using hul) hi' hu, hr⟩
          · have h1 := hR.1
            have h2 := hR.2
            refine ⟨?_, ?_⟩
            · show c.A.depth + 1 + 3 * d + 3 < _; omega
            · show c.A.units + 3 + 20 * d + 100 < _; omega
        have sub : SubS prog w g₀ (callCx c.A fd s.heap.objs.size a) ((c.L, frmP mm) :: fr) d (execs bd (callEnv fd s.heap.objs.size a)) (fun m σ => evSs K (cF K) n d ib m σ) := @body (callCx c.A fd s.heap.objs.size a) ((c.L, frmP mm) :: fr) (callCx_ok F C.hh) ⟨envs, hfr'⟩ bd ib hcs
        -- what is wanted behind the body
        split at hx
        · rename_i _ m₁ σ₁ e1
          simp only [Option.some.injEq, Prod.mk.injEq] at hx
          obtain ⟨rfl, rfl⟩ := hx
          refine sub e1 st0 ⟨fun m' σ' q mm' g' h' tk le I' M' => ?_, fun _ _ _ q => (nomatch q), fun _ _ _ q => (nomatch q)⟩
          cases q
          obtain ⟨le2, I2⟩ := I'.pop st.I le (st.I.len_le I' le)
          exact fin.ok _ rfl .none _ _ tk le2 I2 rfl
        · rename_i v m₁ σ₁ e1
          refine sub e1 st0 ⟨fun _ _ q => (nomatch q), fun v' m' σ' q mm' u g' h' tk le I' hu => ?_, fun _ _ _ q => (nomatch q)⟩
          cases q
          split at hx
          · rename_i hfree
            simp only [Option.some.injEq, Prod.mk.injEq] at hx
            obtain ⟨rfl, rfl⟩ := hx
            obtain ⟨le2, I2⟩ := I'.pop st.I le (st.I.len_le I' le)
            exact fin.ok _ rfl u _ _ tk le2 I2 (VR.mono (show g'.bare.le ⟨g'.frz, g.loc⟩ from ⟨fun _ _ e => e, fun _ _ e => nomatch e⟩) (VR.bare hfree hu))
          · split at hx
            · simp only [Option.some.injEq, Prod.mk.injEq] at hx
              obtain ⟨rfl, rfl⟩ := hx
              exact fin.ok _ rfl u _ _ tk le I'.pop0 hu
            · cases hx
        · rename_i i m₁ σ₁ e1
          simp only [Option.some.injEq, Prod.mk.injEq] at hx
          obtain ⟨rfl, rfl⟩ := hx
          refine sub e1 st0 ⟨fun _ _ q => (nomatch q), fun _ _ _ q => (nomatch q), fun j m' σ' q mm' e g' h' tk le I' M' l hσ hE => ?_⟩
          cases q
          refine wpS.of (leaving_ok (s := { s with heap := h', toks := tk }) hfr' rfl (FrN mm') I' l hσ hE fun h'' I'' t => ?_)
          exact fin.ex i rfl e _ _ tk le I''.pop0 l hσ t.drop
        · cases hx
    · cases hx
  · cases hx
end
end Mine
end

section
open PySem PySem.W PyProof.Rows
set_option maxRecDepth 100000
namespace Mine

/-- what is asked of the class Wire where its things are read -/
structure WireOk (K : Frag) : Prop where
  ga : findIn K (.ref wireC) "__getattribute__" = some (some (.builtin "object.__getattribute__"))
  gk : findIn K (.ref wireC) "__getattr__" = some none
  hd : ∃ cd, clsIn K wireC = some cd ∧ cd.hasDict = true
  at_ : findIn K (.ref wireC) "at" = some none
  data : findIn K (.ref wireC) "data" = some none
  sa : findIn K (.ref wireC) "__setattr__" = some (some (.builtin "object.__setattr__"))
  over : plainOver K wireC = true

section
variable {prog : Program} {w : World} {K : Frag} {p : Program} {loose : List Str} {mean : ExcName → Option Value} {mg mb : Str → Option Value} {g₀ : Heap} {c : Cx} {fr : List Fm} {d : Nat} {m : Lo}
  {σ σ' : List TO} {g : Gh} {mm : Str → Option Value} {s : Shared}

theorem find_at (W : WireOk K) {h1 t1 v1 h2 t2 v2 n} : findObj K wireC (some (dictOf (wireEs h1 t1 v1 h2 t2 v2) n)) "at" = some (.value v2) := by
  obtain ⟨cd, hc, hd⟩ := W.hd
  unfold findObj
  rw [hc, Option.bind_some, W.at_]
  simp only [Option.bind_some]
  unfold PySem.W.ownOf
  rw [if_pos hd]
  rfl
theorem find_data (W : WireOk K) {h1 t1 v1 h2 t2 v2 n} : findObj K wireC (some (dictOf (wireEs h1 t1 v1 h2 t2 v2) n)) "data" = some (.value v1) := by
  obtain ⟨cd, hc, hd⟩ := W.hd
  unfold findObj
  rw [hc, Option.bind_some, W.data]
  simp only [Option.bind_some]
  unfold PySem.W.ownOf
  rw [if_pos hd]
  rfl

theorem wire_inst {i : Nat} {b : List UInt8} {a : Int} {u : Value} {fr' : List Fm} {h : Heap} (I : Inv g₀ g fr' σ h) (hu : VR g (.wire i) u) (e : σ[i]? = some (.wire b a)) :
    ∃ x dx h1 t1 t1' h2 t2 t2' n, u = .ref x ∧ g.loc i = some dx ∧ InstAt h x (instObj wireC dx) wireC (some (dictOf (wireEs h1 t1 (.bytes b.toArray t1') h2 t2 (.int a t2')) n)) := by
  obtain ⟨x, dx, rfl, f, l⟩ := hu
  obtain ⟨x', l', h1, t1, t1', h2, t2, t2', n, hx⟩ := I.so _ _ e
  rw [l] at l'; cases l'
  exact ⟨x, dx, h1, t1, t1', h2, t2, t2', n, rfl, l, I.fz _ _ f, rfl, rfl, hx⟩

theorem sub_at {o : Expr} {pos : Pos} {xa : List TO → R AV} (X : K.In g₀) (W : WireOk K) (hn : isName o = true) (ha : Sub prog w VR g₀ c fr d m (eval o c.env) xa) :
    Sub prog w VR g₀ c fr d m (eval (.Attribute o "at" pos) c.env) (fun σ => bnd (xa σ) fun o σ => match o with
      | .wire i => match σ[i]? with
        | some (.wire _ a) => ret (.int a) σ
        | _ => none
      | _ => none) := by
  intro σ r σ' g mm s Q E hx st fin
  cases o <;> cases hn
  rename_i id ps
  show wpS _ _ (eval (.Name id ps) c.env >>= fun o => standAt pos.atName >>= fun _ => holding [o] (getAttr o "at" true) >>= fun r => letTemporaryGo (.Name id ps) o r >>= fun _ => pure r) _ _ _
  refine wpS_bind (ha.then hx st fin fun a u σ₁ g₁ h₁ tk hx k1 st₁ ra fin₁ => wpS_stand ?_)
  split at hx
  · rename_i i
    split at hx
    · rename_i b a e
      obtain ⟨rfl, rfl⟩ := ret_some hx
      obtain ⟨x, dx, h1, t1, t1', h2, t2, t2', n, rfl, l, IA⟩ := wire_inst st₁.I ra e
      refine wpS_bind (wpS_holding (wpS.of (get_value (X.keeps st₁.fr.keep) IA W.ga (find_at W) rfl ?_)))
      exact wpS_bind (wpS_pure (wpS_pure (fin₁.pure st₁ ⟨_, rfl⟩)))
    · cases hx
  · cases hx
theorem sub_data {o : Expr} {pos : Pos} {xa : List TO → R AV} (X : K.In g₀) (W : WireOk K) (hn : isName o = true) (ha : Sub prog w VR g₀ c fr d m (eval o c.env) xa) :
    Sub prog w VR g₀ c fr d m (eval (.Attribute o "data" pos) c.env) (fun σ => bnd (xa σ) fun o σ => match o with
      | .wire i => match σ[i]? with
        | some (.wire b _) => ret (.bytes b) σ
        | _ => none
      | _ => none) := by
  intro σ r σ' g mm s Q E hx st fin
  cases o <;> cases hn
  rename_i id ps
  show wpS _ _ (eval (.Name id ps) c.env >>= fun o => standAt pos.atName >>= fun _ => holding [o] (getAttr o "data" true) >>= fun r => letTemporaryGo (.Name id ps) o r >>= fun _ => pure r) _ _ _
  refine wpS_bind (ha.then hx st fin fun a u σ₁ g₁ h₁ tk hx k1 st₁ ra fin₁ => wpS_stand ?_)
  split at hx
  · rename_i i
    split at hx
    · rename_i b a e
      obtain ⟨rfl, rfl⟩ := ret_some hx
      obtain ⟨x, dx, h1, t1, t1', h2, t2, t2', n, rfl, l, IA⟩ := wire_inst st₁.I ra e
      refine wpS_bind (wpS_holding (wpS.of (get_value (X.keeps st₁.fr.keep) IA W.ga (find_data W) rfl ?_)))
      exact wpS_bind (wpS_pure (wpS_pure (fin₁.pure st₁ ⟨_, rfl⟩)))
    · cases hx
  · cases hx

/-- calls of the text's defs, as y says -/
noncomputable def FnOk (prog : Program) (w : World) (g₀ : Heap) (c : Cx) (fr : List Fm) (d : Nat) (m : Lo) (y : Addr → List AV → List TO → R AV) : Prop :=
  ∀ {a : Addr} {as : List AV} {us : List Value} {σ : List TO} {r : Ex AV} {σ' : List TO} {g : Gh} {mm : Str → Option Value} {s : Shared} {Q : Value → Shared → Prop} {E : Value → Shared → Prop}, y a as σ = some (r, σ') → VRs g as us → St g₀ c fr d m σ g mm s.heap → Fin VR g₀ c fr mm r σ' g s Q E →
    (∃ k, Looks (model prog w) s.heap (keeperOf (.ref a)) k) ∧ wpS (model prog w) c.A (call (.ref a) us) Q E s

theorem wireM_some {name : Str} {f : Addr} (h : wireM K name = some f) : findIn K (.ref wireC) name = some (some (.ref f)) ∧ plainGet K wireC name = true ∧ isFn K (.ref f) = true ∧ name ≠ "data" ∧ name ≠ "at" := by
  unfold wireM at h
  split at h
  · rename_i f' e
    split at h
    · rename_i q
      cases h
      simp only [Bool.and_eq_true, bne_iff_ne, ne_eq] at q
      obtain ⟨⟨⟨q1, q2⟩, q3⟩, q4⟩ := q
      exact ⟨e, q1, q2, q3, q4⟩
    · cases h
  · cases h

theorem shadow_no {name : Str} {h1 t1 v1 h2 t2 v2 n} (n1 : name ≠ "data") (n2 : name ≠ "at") : shadowIn (some (dictOf (wireEs h1 t1 v1 h2 t2 v2) n)) name = some false := by
  have e1 : (Str.ofString "data" == name) = false := beq_eq_false_iff_ne.mpr (Ne.symm n1)
  have e2 : (Str.ofString "at" == name) = false := beq_eq_false_iff_ne.mpr (Ne.symm n2)
  simp [shadowIn, lookIn, wireEs, Value.isStr, DictEntry.refKey, e1, e2]

theorem backTo_all (pos : Pos) : ∀ {l : List (Bool × Sem Value)}, l.any (·.1) = false → (backTo pos l).all (!·.1) = true
  | [], _ => rfl
  | (b, x) :: r, h => by
    simp only [List.any_cons, Bool.or_eq_false_iff] at h
    simp only [backTo, List.map_cons, List.all_cons, Bool.and_eq_true, Bool.not_eq_true']
    exact ⟨h.1, backTo_all pos h.2⟩

theorem sub_meth {o : Expr} {name : Str} {apos pos : Pos} {es : List Expr} {k : MK} {xo : List TO → R AV} {xs : List TO → R (List AV)} {y : Addr → List AV → List TO → R AV} (X : K.In g₀)
    (hp : (plainBase o && decide (es.length < 29) && (apos.endLine == pos.line)) = true) (hes : ∀ env, (starEach es env).any (·.1) = false) (hk : cMeth K name = some k)
    (ho : Sub prog w VR g₀ c fr d m (eval o c.env) xo) (hs : Sub prog w VRs g₀ c fr d m (spliced (backTo pos (starEach es c.env))) xs) (hy : FnOk prog w g₀ c fr d m y) :
    Sub prog w VR g₀ c fr d m (eval (.Call (.Attribute o name apos) es [] pos) c.env) (fun σ => bnd (xo σ) fun o σ₁ => match xs σ₁ with
      | some (.ok as, σ) => (match k with
        | .own _ f => if kindT σ₁ o = 4 then y f (o :: as) σ else none
        | k => if kindT σ₁ o = kindT σ o then methB K σ k o as else none)
      | _ => none) := by
  intro σ r σ' g mm s Q E hx st fin
  rw [Bool.and_eq_true, Bool.and_eq_true] at hp
  obtain ⟨⟨hp, hlen⟩, hline⟩ := hp
  have hlen := of_decide_eq_true hlen
  have e0 : eval (.Call (.Attribute o name apos) es [] pos) c.env = (eval o c.env >>= fun ov => standAt apos.atName >>= fun _ =>
      methodCall o name apos pos c.env ov (es.length + 0) (backTo pos (starEach es c.env)) []) := by
    cases o <;> first | rfl | cases hp
  rw [e0]
  refine wpS_bind (ho.then hx st fin fun a u σ₁ g₁ h₁ tk hx k1 st₁ ra fin₁ => wpS_stand ?_)
  have few : methodCallForm (es.length + 0) (backTo pos (starEach es c.env)) [] = true := by
    unfold methodCallForm
    rw [backTo_all pos (hes _)]
    simp; omega
  have eC : ∀ ov, calleeOf true o c.env ov name = getMethod ov name (do return (← importBound o c.env).getD true) := fun _ => rfl
  have eP : methodCallPos true o c.env apos pos = pure pos := by
    unfold methodCallPos
    rw [hline]; rfl
  unfold methodCall
  rw [few, eC, eP]
  -- what the getting gives
  have key : ∀ {T : Sem (Value × List Value)} {f : Value}, (∀ {Q' : Value × List Value → Shared → Prop} {E'}, Q' (f, [u]) { s with heap := h₁, toks := tk } → wpAny (model prog w) c.A T Q' E' { s with heap := h₁, toks := tk }) →
      wpS (model prog w) c.A (callWith pos f [u] (backTo pos (starEach es c.env)) []) Q E { s with heap := h₁, toks := tk } →
      wpS (model prog w) c.A (do let (f, first) ← holding [u] T; let callPos ← pure pos; callWith callPos f first (backTo pos (starEach es c.env)) []) Q E { s with heap := h₁, toks := tk } := fun hT hc =>
    wpS_bind (wpS_holding (wpS.of (hT (wpS_bind (wpS_pure hc)))))
  split at hx <;> try (cases hx)
  · rename_i as σ₂ hxs
    have hx2 := hx
    clear hx
    cases k with
    | own nm f =>
      obtain ⟨rfl, hw⟩ := cMeth_name hk
      obtain ⟨q1, q2, q3, q4, q5⟩ := wireM_some hw
      dsimp only at hx2
      split at hx2
      · rename_i hkd
        have : ∃ i b z, a = .wire i ∧ σ₁[i]? = some (.wire b z) := by
          unfold kindT at hkd
          split at hkd
          · split at hkd <;> cases hkd
          · rename_i i
            split at hkd
            · rename_i b z e; exact ⟨i, b, z, rfl, e⟩
            · cases hkd
          · cases hkd
        obtain ⟨i, b, z, rfl, e⟩ := this
        obtain ⟨x, dx, h1, t1, t1', h2, t2, t2', n, rfl, l, IA⟩ := wire_inst st₁.I ra e
        unfold plainGet at q2
        simp only [Bool.and_eq_true, beq_iff_eq] at q2
        have X1 : K.In h₁ := X.keeps st₁.fr.keep
        refine key (f := .ref f) (fun hQ => method_fn X1 IA q2.1 q2.2 q1 (beq_iff_eq.mp q3) (shadow_no q4 q5) hQ) ?_
        refine callWithS (backTo_plain pos (hes _)) (hs hxs st₁ ⟨fun as' q us g₂ h₂ tk₂ le I₂ rs => ?_, fun _ q => nomatch q⟩)
        cases q
        exact hy hx2 (VRs.cons (ra.mono le) rs) (st₁.next le I₂) (fin₁.later le)
      · cases hx2
    | _ =>
      dsimp only at hx2
      split at hx2
      · rename_i hkd
        obtain ⟨T, MO⟩ := get_ok (s := { s with heap := h₁, toks := tk }) X hk hx2 hkd ra st₁.I
        refine key (fun hQ => MO.get hQ) ?_
        refine callWithS (backTo_plain pos (hes _)) (hs hxs st₁ ⟨fun as' q us g₂ h₂ tk₂ le I₂ rs => ?_, fun _ q => nomatch q⟩)
        cases q
        refine ⟨keeper_plain (by intro a; nofun), ?_⟩
        have z := methCall_ok (prog := prog) (w := w) (c := c) (fr := fr) (d := d) (m := m) (mm := mm) (s := { s with heap := h₂, toks := tk₂ }) X hx2 (ra.mono le) rs (st₁.next le I₂) (fin₁.later le)
        rw [← hkd] at z
        exact z
      · cases hx2
end
end Mine
end

section
open PySem PySem.W PySem.Calls PyProof.Rows Builtin Builtin.ObjectAttr
set_option maxRecDepth 100000
namespace Mine

/-- a class whose instances' names go into their own dict -/
structure StoreOk (K : Frag) (C : Addr) : Prop where
  sa : findIn K (.ref C) "__setattr__" = some (some (.builtin "object.__setattr__"))
  cd : ∃ cd, clsIn K C = some cd ∧ cd.hasDict = true ∧ cd.mro.isEmpty = false ∧ cd.mro.contains (.type "object") = true ∧ ∀ self, refuseLoop self "__setattr__" cd.mro = pure ()

section
variable {prog : Program} {w : World} {K : Frag} {A : Around} {E : Value → Shared → Prop} {s : Shared} {x C dx : Addr} {ox : Obj} {es : List DictEntry} {n n' : Nat} {name : Str} {v : Value}

/-- the store goes to the thing's own dict -/
theorem set_to_own {Q : Unit → Shared → Prop} {od : Option Obj} (X : K.In s.heap) (S : StoreOk K C) (I : InstAt s.heap x ox C od) (ht : takerIn K C name = some none)
    (h : ∀ b, wpAny (model prog w) A.in1 (storeInOwnDict (.ref x) (.ref C) (.str name s.toks) name v b) (fun fin s' => match fin with | .done (.ret _) => Q () s' | _ => False) E { s with toks := s.toks + 1 }) :
    wpAny (model prog w) A (setAttr (.ref x) name v) Q E s := by
  have SF := PySem.F.store_object
  obtain ⟨cd, hc, hdict, hne, hob, hrf⟩ := S.cd
  refine set_plain X I S.sa ?_
  have sub : Looks (model prog w) s.heap (isInstance (.ref x) (.type "object")) true := I.type.andThen (looks_mroIn X (by unfold mroIn; rw [hc, Option.bind_some, if_neg (by rw [hne]; decide), hob]))
  have hm : Looks (model prog w) s.heap (mroOf (.ref C)) cd.mro := (looks_clsIn X hc).andThen .now
  obtain ⟨attr, ha, hr2⟩ := Option.bind_eq_some_iff.mp ht
  have L3 : Looks (model prog w) s.heap (storeTaker? attr) none := by
    cases attr with
    | none => exact .now
    | some a =>
      obtain ⟨b, hb, q⟩ := Option.map_eq_some_iff.mp hr2
      refine (looks_takesIn X hb).andThen ?_
      cases b with
      | true => cases q
      | false => exact .now
  refine codeAny_call_builtin SF.slot.plain SF.entry (@check_slot (model prog w) _ _ { s with toks := s.toks + 1 } "object.__setattr__" "object" "__setattr__" (.ref x) [.str name s.toks, v] [] _ SF.kind SF.split sub (SF.args (.ref x) (.str name s.toks) v) ?_)
  rw [osa_eq, refuse_eq]
  refine wpAny_bind (wpAny_bind (I.type.here (s := { s with toks := s.toks + 1 }) (wpAny_bind (hm.here (s := { s with toks := s.toks + 1 }) ?_))))
  rw [hrf]
  refine wpAny_pure (wpAny_bind (I.type.here (s := { s with toks := s.toks + 1 }) (wpAny_bind ((looks_findIn X ha).here (s := { s with toks := s.toks + 1 }) (wpAny_bind (L3.here (s := { s with toks := s.toks + 1 }) ?_))))))
  refine wpAny_mono (h _) (fun fin s' z => ?_) fun _ _ z => z
  rcases fin with (_ | _ | _ | _) | _ <;> first | exact z | exact z.elim

/-- into a dict -/
theorem put_name {Q : PySem.Fin → Shared → Prop} {es' : Int → Tok → List DictEntry} {tk : Tok} (D : s.heap.get? dx = some (dictOf es n)) (hr : es.any (·.refKey) = false) (e : ∀ h t, Obj.putName name h (.str name t) v (dictOf es n) = dictOf (es' h t) n') (hz : ∀ h t, (es' h t).length ≤ 1000)
    (h : ∀ h' i t tk, h'.get? dx = some (dictOf (es' i t) n') → Heap.SameBut dx s.heap h' → Q (.done (.ret .none)) { s with heap := h', toks := tk }) :
    wpAny (model prog w) A (storeInDict dx (.str name tk) name v) Q E s := by
  unfold storeInDict
  refine wpAny_bind (wpAny_pure (wpAny_bind ?_))
  unfold nsSet
  refine wpAny_bind (wpAny_bind (wpAny_askSetting (wpAny_pure (wpAny_bind (wpAny_mkText (wpAny_bind (wpAny_loadPart D ?_)))))))
  dsimp only
  rw [aRefKeyMayBeTheName_at]
  have c : (!es.toArray.any (·.key.isStr name) && es.toArray.any (·.refKey)) = false := by
    rw [show es.toArray.any (·.refKey) = false by simpa using hr, Bool.and_false]
  rw [c]
  refine wpAny_updatePart D ?_
  have D' := Heap.get?_update_self (Obj.putName name (PyData.keyHash w.params name) (.str name s.toks) v) D (by rw [e]; rfl)
  rw [e] at D'
  refine wpAny_bind (wpAny_lookBehind D' (by exact pastItsLine_dict (by rw [List.size_toArray, sizeLine_eq]; have := hz (PyData.keyHash w.params name) s.toks; omega)) ?_)
  exact wpAny_pure (h _ _ _ _ D' (Heap.SameBut.update ..))

theorem store_own {Q : Unit → Shared → Prop} {es' : Int → Tok → List DictEntry} (X : K.In s.heap) (S : StoreOk K C) (I : InstAt s.heap x ox C (some (dictOf es n))) (hd : ox.dict = some dx) (ht : takerIn K C name = some none)
    (hr : es.any (·.refKey) = false) (e : ∀ h t, Obj.putName name h (.str name t) v (dictOf es n) = dictOf (es' h t) n') (hz : ∀ h t, (es' h t).length ≤ 1000)
    (h : ∀ h' i t tk, h'.get? dx = some (dictOf (es' i t) n') → Heap.SameBut dx s.heap h' → Q () { s with heap := h', toks := tk }) :
    wpAny (model prog w) A (setAttr (.ref x) name v) Q E s := by
  obtain ⟨cd, hc, hdict, hne, hob, hrf⟩ := S.cd
  refine set_to_own X S I ht fun b => ?_
  have D := I.dict
  obtain ⟨hx, hcl, hn, -⟩ := I
  obtain ⟨oc, odi, oda, osl⟩ := ox
  dsimp only at hcl hd D
  subst hcl hd
  refine wpAny_bind (wpAny_pure (wpAny_bind (wpAny_bind (wpAny_loadPart hx (wpAny_bind ((looks_clsIn X hc).here (s := { s with toks := s.toks + 1 }) ?_))))))
  rw [hdict]
  exact wpAny_pure (a := some dx) (put_name (s := { s with toks := s.toks + 1 }) D hr e hz h)

/-- the first store: the dict is made -/
theorem store_first {Q : Unit → Shared → Prop} {es' : Int → Tok → List DictEntry} (X : K.In s.heap) (S : StoreOk K C) (I : InstAt s.heap x ox C none) (hd : ox.dict = none) (ht : takerIn K C name = some none)
    (e : ∀ h t, Obj.putName name h (.str name t) v (dictOf [] 0) = dictOf (es' h t) n') (hz : ∀ h t, (es' h t).length ≤ 1000) (hf : ∃ vs, ox.data = .fields vs)
    (h : ∀ h' i t tk dx, s.heap.get? dx = none → h'.get? dx = some (dictOf (es' i t) n') → h'.get? x = some { ox with dict := some dx } → (∀ b o, b ≠ x → s.heap.get? b = some o → h'.get? b = some o) → Q () { s with heap := h', toks := tk }) :
    wpAny (model prog w) A (setAttr (.ref x) name v) Q E s := by
  obtain ⟨cd, hc, hdict, hne, hob, hrf⟩ := S.cd
  refine set_to_own X S I ht fun b => ?_
  obtain ⟨hx, hcl, hn, -⟩ := I
  have hxlt := Heap.lt_size hx
  obtain ⟨oc, odi, oda, osl⟩ := ox
  obtain ⟨vs, hf⟩ := hf
  dsimp only at hcl hd hf
  subst hcl hd hf
  have h1 : (s.heap.push emptyDict).get? x = some { cls := .ref C, dict := none, data := .fields vs, slots := osl } := Heap.get?_push_of_some _ hx
  have h2 : ((s.heap.push emptyDict).update x fun o => { o with dict := some s.heap.objs.size }).get? x = some { cls := .ref C, dict := some s.heap.objs.size, data := .fields vs, slots := osl } := Heap.get?_update_self _ h1 rfl
  have hne' : x ≠ s.heap.objs.size := Nat.ne_of_lt hxlt
  have h3 : ((s.heap.push emptyDict).update x fun o => { o with dict := some s.heap.objs.size }).get? s.heap.objs.size = some (dictOf [] 0) := (Heap.get?_update_other _ _ hne').trans (Heap.get?_push_size _ rfl)
  refine wpAny_bind (wpAny_pure (wpAny_bind (wpAny_bind (wpAny_loadPart hx (wpAny_bind ((looks_clsIn X hc).here (s := { s with toks := s.toks + 1 }) ?_))))))
  rw [hdict]
  have tail : wpAny (model prog w) A.in1 (do
      let d ← alloc emptyDict
      update x fun o => { o with dict := some d }
      dictMade (.ref C) x d) (fun a s' => wpAny (model prog w) A.in1 (match a with | some d => storeInDict d (.str name s.toks) name v | none => noDictFor (.ref x) (.ref C) name b) (fun fin s' => match fin with | .done (.ret _) => Q () s' | _ => False) E s') E { s with toks := s.toks + 1 } := by
    refine wpAny_bind (wpAny_alloc (wpAny_bind (wpAny_update h1 (wpAny_bind (wpAny_pure (wpAny_pure ?_))))))
    refine put_name (s := { s with heap := (s.heap.push emptyDict).update x fun o => { o with dict := some s.heap.objs.size }, toks := s.toks + 1 }) h3 rfl e hz fun h' i t tk q1 q2 => ?_
    refine h h' i t tk s.heap.objs.size (get_size _) q1 ((q2.2 _ hne').trans h2) fun b o hb z => (q2.2 b (Nat.ne_of_lt (Heap.lt_size z))).trans ((Heap.get?_update_other _ _ (Ne.symm hb)).trans (Heap.get?_push_of_some _ z))
  exact tail
end
end Mine
end

section
open PySem PySem.W PySem.Calls PyProof.Rows
set_option maxRecDepth 100000
namespace Mine

/-- a def of the top that is called by hand -/
structure DefOk (K : Frag) (f : Addr) (fd : FuncData) : Prop where
  at_ : ∃ oc od sl, K.lookup f = some ⟨oc, od, .func fd, sl⟩
  co : fd.scope.isCoroutine = false
  gen : fd.scope.isGenerator = false
  kind : fd.scope.kind = .function
  cell : ∀ x ∈ fd.scope.names, x.2 ≠ .cell
  code : codeIn K fd.code fd.qualname = true
  typ : typeIn K (.ref f) = some (.type "function")

section
variable {prog : Program} {w : World} {K : Frag} {A : Around} {R : Result → Shared → Prop} {s : Shared} {f : Addr} {fd : FuncData} {body : List Stmt} {args : Args} {binds : List (Str × Value)}

theorem def_call (D : DefOk K f fd) (X : K.In s.heap) (hlim : s.heap.NoLimit) (hroom : A.depth < recursionLimit) (hbody : fd.body = .stmts body) (hbind : ∀ S, peek K S (bindArgs fd args) = some binds) (hloc : ∀ x ∈ binds, fd.scope.names.lookup x.1 = some .local)
    (h : ∀ h₀, h₀.Ns s.heap.objs.size (fun x => binds.reverse.lookup x) → (∀ b o, s.heap.get? b = some o → h₀.get? b = some o) →
      wpAny (model prog w) (A.deeper (callEnv fd s.heap.objs.size f)) (execs body (callEnv fd s.heap.objs.size f)) (fun f s' => R (.ok (.ret (match f with | .ret v => v | _ => .none))) s') (fun _ _ => False) { s with heap := h₀, toks := s.toks + binds.length }) :
    codeAny (model prog w) A (.call (.ref f) args) R s := by
  obtain ⟨oc, od, sl, ho⟩ := D.at_
  exact codeAny_call_def hroom (X _ _ ho) rfl hlim (codeRec_of X D.code) hbody (kp_binds X hbind) D.cell hloc (fun h₀ a b => wpAny_mono (h h₀ a b) (fun _ _ z => z) fun _ _ z => z.elim) D.co D.gen D.kind
end

section
variable {prog : Program} {w : World} {K : Frag} {A : Around} {Q : Flow → Shared → Prop} {E : Value → Shared → Prop} {s : Shared} {env : Env} {L : Addr} {mm : Str → Option Value}

theorem load_local {x : Str} {pos : Pos} {v : Value} {Q : Value → Shared → Prop} (hk : env.scope.kind = .function) (hx : env.kindOf x = some .local) (hd : x ≠ "__debug__") (hn : s.heap.Ns env.locals mm) (hv : mm x = some v) (h : Q v s) :
    wpAny (model prog w) A (eval (.Name x pos) env) Q E s :=
  wpAny_Name (wpAny_loadName_local hk hx hn hv h) (by simpa using hd)

/-- o.attr = b, both local -/
theorem store_stmt {o b attr : Str} {p1 p2 p3 pos : Pos} {x : Addr} {v : Value} (hk : env.scope.kind = .function) (ho : env.kindOf o = some .local) (hb : env.kindOf b = some .local) (hdo : o ≠ "__debug__") (hdb : b ≠ "__debug__") (hn : s.heap.Ns env.locals mm)
    (vo : mm o = some (.ref x)) (vb : mm b = some v) (h : wpAny (model prog w) A (setAttr (.ref x) attr v) (fun _ => Q .next) E s) :
    wpAny (model prog w) A (exec (.Assign [.Attribute (.Name o p1) attr p2] (.Name b p3) pos) env) Q E s :=
  plainObj_wpAny_Assign_Attribute (load_local hk hb hdb hn vb (load_local hk ho hdo hn vo h)) rfl
end

noncomputable abbrev stmt2 (o b attr : Str) (p1 p2 p3 pos : Pos) : Stmt := .Assign [.Attribute (.Name o p1) attr p2] (.Name b p3) pos

/-- the init of the class Wire -/
structure WireInit (K : Frag) : Prop where
  made : makesIn K wireC = true
  keep : keepIn K (.ref wireC) = true
  st : StoreOk K wireC
  tk1 : takerIn K wireC "data" = some none
  tk2 : takerIn K wireC "at" = some none
  it : ∃ f fd a1 a2 a3 a4 b1 b2 b3 b4 tz, findIn K (.ref wireC) "__init__" = some (some (.ref f)) ∧ DefOk K f fd ∧ fd.body = .stmts [stmt2 "self" "data" "data" a1 a2 a3 a4, stmt2 "self" "at" "at" b1 b2 b3 b4] ∧
    (∀ S x u, peek K S (bindArgs fd ⟨[x, u], []⟩) = some [(Str.ofString "self", x), (Str.ofString "data", u), (Str.ofString "at", .int 0 tz)]) ∧ fd.scope.names.lookup (Str.ofString "self") = some .local ∧ fd.scope.names.lookup (Str.ofString "data") = some .local ∧ fd.scope.names.lookup (Str.ofString "at") = some .local

section
variable {prog : Program} {w : World} {K : Frag} {A : Around} {E : Value → Shared → Prop} {s : Shared} {u : Value}

theorem wire_call {Q : Value → Shared → Prop} (W : WireInit K) (X : K.In s.heap) (hlim : s.heap.NoLimit) (hroom : A.depth + 1 < recursionLimit)
    (h : ∀ h' x dx h1 t1 h2 t2 tz tk n, s.heap.get? x = none → s.heap.get? dx = none → s.heap.objs.size ≤ dx → x ≠ dx → h'.get? x = some (instObj wireC dx) → h'.get? dx = some (dictOf (wireEs h1 t1 u h2 t2 (.int 0 tz)) n) → (∀ b o, s.heap.get? b = some o → h'.get? b = some o) → Q (.ref x) { s with heap := h', toks := tk }) :
    wpAny (model prog w) A (call (.ref wireC) [u]) Q E s := by
  obtain ⟨f, fd, a1, a2, a3, a4, b1, b2, b3, b4, tz, hi, D, hbody, hbind, l1, l2, l3⟩ := W.it
  obtain ⟨hh, g, d, t, os⟩ := s
  dsimp only at X hlim h
  refine wpAny_call (make_core (makes_of X W.made) (looks_findIn X hi) (fun self => bind_fn X self D.typ) (.inl rfl) ?_)
  have k : ∀ b o, hh.get? b = some o → ((hh.push emptyDict).push (instObj wireC hh.objs.size)).get? b = some o := fun b o e => Heap.get?_push_of_some _ (Heap.get?_push_of_some _ e)
  have hx : ((hh.push emptyDict).push (instObj wireC hh.objs.size)).get? (hh.objs.size + 1) = some (instObj wireC hh.objs.size) := by heap_get
  have hdx : ((hh.push emptyDict).push (instObj wireC hh.objs.size)).get? hh.objs.size = some (dictOf [] 0) := by heap_get
  have nx : hh.get? (hh.objs.size + 1) = none := Heap.get?_none_of_le (Nat.le_succ _)
  generalize hh.objs.size + 1 = x at hx nx
  have hnx : x ≠ hh.objs.size := fun q => by rw [q, hdx] at hx; cases hx
  have hsz : ∀ b o, ((hh.push emptyDict).push (instObj wireC hh.objs.size)).get? b = some o → b ≠ ((hh.push emptyDict).push (instObj wireC hh.objs.size)).objs.size := fun b o e => Nat.ne_of_lt (Heap.lt_size e)
  generalize (hh.push emptyDict).push (instObj wireC hh.objs.size) = h₁ at k hx hdx hsz
  have X1 := X.keeps k
  refine def_call D X1 (hlim.keeps k) (by show A.depth + 1 < _; exact hroom) hbody (fun S => hbind S _ _) (fun y hy => ?_) fun h₀ hns k0 => ?_
  · simp only [List.mem_cons, List.not_mem_nil, or_false] at hy
    rcases hy with rfl | rfl | rfl
    · exact l1
    · exact l2
    · exact l3
  have X2 := X1.keeps k0
  have hx2 := k0 _ _ hx
  have hd2 := k0 _ _ hdx
  refine wpAny_execs_cons (store_stmt (x := x) (v := u) D.kind l1 l2 (by decide) (by decide) hns rfl rfl ?_)
  refine store_own (s := { heap := h₀, gens := g, drawn := d, toks := _, os := os }) (es' := fun h t => [⟨h, .str "data" t, u⟩]) (n' := 1) X2 W.st ⟨hx2, rfl, rfl, hd2⟩ rfl W.tk1 rfl (fun _ _ => rfl) (fun _ _ => by simp) fun h3 i1 t1 tk1 q1 s1 => ?_
  have X3 : K.In h3 := fun a o e => (s1.2 a (fun q => by have := X _ _ e; rw [q, get_size] at this; cases this)).trans (X2 a o e)
  have hns3 : h3.Ns h₁.objs.size _ := hns.sameBut s1 (Ne.symm (hsz _ _ hdx))
  have hx3 := (s1.2 x hnx).trans hx2
  refine wpAny_execs_cons (store_stmt (x := x) (v := .int 0 tz) D.kind l1 l3 (by decide) (by decide) hns3 rfl rfl ?_)
  refine store_own (s := { heap := h3, gens := g, drawn := d, toks := tk1, os := os }) (es' := fun h t => wireEs i1 t1 u h t (.int 0 tz)) (n' := 2) X3 W.st ⟨hx3, rfl, rfl, q1⟩ rfl W.tk2 rfl (fun _ _ => rfl) (fun _ _ => by simp) fun h4 i2 t2 tk2 q2 s2 => ?_
  refine wpAny_execs_nil ⟨rfl, ?_⟩
  exact h h4 x hh.objs.size i1 t1 i2 t2 tz tk2 2 nx (get_size _) (Nat.le_refl _) hnx ((s2.2 x hnx).trans hx3) q2 fun b o e => by
    have hb : b ≠ hh.objs.size := Nat.ne_of_lt (Heap.lt_size e)
    exact (s2.2 b hb).trans ((s1.2 b hb).trans (k0 _ _ (k _ _ e)))
end
end Mine
end

section
open PySem PySem.W PySem.Calls PyProof.Rows
set_option maxRecDepth 100000
namespace Mine

/-- what an exception's class is, as far as its making asks -/
structure ExcMro (bm : List Value) : Prop where
  exc : bm.contains (.type "Exception") = true
  noA : bm.contains (.type "AttributeError") = false
  noN : bm.contains (.type "NameError") = false
  base : bm.contains (.type "BaseException") = true

section
variable {M : Model} {A : Around} {E : Value → Shared → Prop} {h : Heap} {g : Array GenState} {d : Drawn} {t : Nat} {os : OsState}
variable {nm q : Str} {C N : Addr} {bs bm : List Value} {hdct : Bool} {sn : List Str} {sub : List Value} {ab : Bool} {col : Option Bool} {dd : Option Addr} {k0 k1 k2 k3 k5 : Option Value}

theorem check_new (hm : ExcMro bm) {rest : List Value} {Q : Unit → Shared → Prop} (hC : h.get? C = some (excClassObj nm q C N bs bm hdct sn sub ab col dd k0 k1 k2 k3 k5 "Exception.__new__"))
    (hq : Q () ⟨h, g, d, t, os⟩) : wpAny M A (checkBuiltinCall "Exception.__new__" ⟨.ref C :: rest, []⟩) Q E ⟨h, g, d, t, os⟩ := by
  have Fn := PySem.F.excBase_Exception
  have hcont : (Value.ref C :: bm).contains (.type "Exception") = true := by rw [List.contains_cons, hm.exc, Bool.or_true]
  have hstar := Fn.noStar
  simp only [checkBuiltinCall, Fn.newKind, Fn.newSplit, Fn.newRow]
  repeat (first | refine wpAny_loadPart_at hC ?_ | (refine wpAny_isSubtype_exc hC ?_; rw [hcont]) | refine wpAny_staticBase_exc hC ?_ | refine wpAny_madeBy_exc hC ?_ | simp only [bne_self_eq_false, Bool.false_eq_true, if_false] | wp_step)
  exact hq
end

noncomputable abbrev excObj (C t : Addr) : Obj := { cls := .ref C, data := .fields #[.ref t, .none, .none, .none, .bool false, .none] }

section
variable {prog : Program} {w : World} {A : Around} {R : Result → Shared → Prop} {h : Heap} {g : Array GenState} {d : Drawn} {t : Nat} {os : OsState}
variable {nm q : Str} {C N : Addr} {bs bm : List Value} {hdct : Bool} {sn : List Str} {sub : List Value} {ab : Bool} {col : Option Bool} {dd : Option Addr} {k0 k1 k2 k3 k5 : Option Value}

theorem exc_new (hm : ExcMro bm) {rest : List Value} (hC : h.get? C = some (excClassObj nm q C N bs bm hdct sn sub ab col dd k0 k1 k2 k3 k5 "Exception.__new__"))
    (hq : R (.ok (.ret (.ref (h.objs.size + 1)))) ⟨(h.push { cls := .type "tuple", data := .seq rest.toArray }).push (excObj C h.objs.size), g, d, t, os⟩) (hrest : rest.length ≤ sizeLine) :
    codeAny (model prog w) A (.builtin "Exception.__new__" ⟨.ref C :: rest, []⟩) R ⟨h, g, d, t, os⟩ := by
  have Fn := PySem.F.excBase_Exception
  have hends := Fn.ends
  have hcB : (Value.ref C :: bm).contains (.type "Exception") = true := by rw [List.contains_cons, hm.exc, Bool.or_true]
  have hcA : (Value.ref C :: bm).contains (.type "AttributeError") = false := by rw [List.contains_cons, hm.noA]; rfl
  have hcN : (Value.ref C :: bm).contains (.type "NameError") = false := by rw [List.contains_cons, hm.noN]; rfl
  refine codeAny_builtinAt Fn.entry ?_
  unfold Builtin.«BaseException.__new__»
  refine PySem.wpAt_bind ?_
  show PySem.wpAt _ _ _ (stack >>= _) _ _ _
  refine PySem.wpAt_bind (PySem.wpAt_stack fun p below => PySem.wpAt_of_wpAny ?_)
  wp_walk
  refine PySem.wpAt_of_wpAny ?_
  rw [Fn.owner]
  repeat (first | with_reducible refine wpAny_madeHere_exc Fn.canon hC ?_ | with_reducible refine wpAny_loadPart_at hC ?_ | (with_reducible refine wpAny_isSubtype_exc hC ?_; first | rw [hcB] | rw [hcA] | rw [hcN]) | wp_step)
  show R _ _
  rw [Heap.size_push]
  exact hq
end
end Mine
end

section
open PySem PySem.W PySem.Calls PyProof.Rows
set_option maxRecDepth 100000
namespace Mine
section
variable {prog : Program} {w : World} {K : Frag} {A : Around} {E : Value → Shared → Prop} {h : Heap} {g : Array GenState} {d : Drawn} {t : Nat} {os : OsState}
variable {nm q : Str} {C N : Addr} {bs bm : List Value} {hdct : Bool} {sn : List Str} {sub : List Value} {ab : Bool} {col : Option Bool} {dd : Option Addr} {k0 k1 k2 k3 k5 : Option Value}

theorem exc_type_call (hm : ExcMro bm) (X : K.In h) {f : Addr} (hi : findIn K (.ref C) "__init__" = some (some (.ref f))) (hf : typeIn K (.ref f) = some (.type "function")) {rest : List Value} {Q : PySem.Fin → Shared → Prop}
    (hC : h.get? C = some (excClassObj nm q C N bs bm hdct sn sub ab col dd k0 k1 k2 k3 k5 "Exception.__new__")) (hrest : rest.length ≤ sizeLine)
    (hq : wpAny (model prog w) A (call (.ref f) (.ref (h.objs.size + 1) :: rest)) (fun v s' => v = .none ∧ Q (.done (.ret (.ref (h.objs.size + 1)))) s') E ⟨(h.push { cls := .type "tuple", data := .seq rest.toArray }).push (excObj C h.objs.size), g, d, t, os⟩) :
    wpAny (model prog w) A (Builtin.«type.__call__» ⟨.ref C :: rest, []⟩) Q E ⟨h, g, d, t, os⟩ := by
  have Fn := PySem.F.excBase_Exception
  repeat (first | with_reducible refine wpAny_loadPart_at hC ?_ | with_reducible refine wpAny_madeBy_exc hC ?_ | wp_step)
  refine codeAny_call_builtin_code (Code.quiet_builtin _ Fn.quiet) (check_new hm hC ?_)
  refine exc_new hm hC ?_ hrest
  show wpAny _ _ _ _ _ _
  have k : ∀ b o, h.get? b = some o → ((h.push { cls := .type "tuple", data := .seq rest.toArray }).push (excObj C h.objs.size)).get? b = some o := fun b o e => Heap.get?_push_of_some _ (Heap.get?_push_of_some _ e)
  have hC₁ := k _ _ hC
  have X1 := X.keeps k
  have hget : ((h.push { cls := .type "tuple", data := .seq rest.toArray }).push (excObj C h.objs.size)).get? (h.objs.size + 1) = some (excObj C h.objs.size) := by heap_get
  have hcC : (Value.ref C :: bm).contains (.ref C) = true := by simp
  unfold isInstance
  repeat (first | with_reducible refine wpAny_loadPart_at hget ?_ | (with_reducible refine wpAny_isSubtype_exc hC₁ ?_; rw [hcC]) | wp_step)
  show wpAny _ _ (typeLookup (.ref C) _) _ _ _
  refine (looks_findIn X1 hi).at ?_
  refine wpAny_holding (wpAny_bind ((bind_fn X1 _ hf).at ?_))
  refine wpAny_bind (wpAny_mono hq (fun v s' z => ?_) fun _ _ z => z)
  obtain ⟨rfl, z⟩ := z
  exact wpAny_pure (wpAny_pure z)

theorem exc_core (hm : ExcMro bm) (X : K.In h) {f : Addr} (hi : findIn K (.ref C) "__init__" = some (some (.ref f))) (hf : typeIn K (.ref f) = some (.type "function")) {rest : List Value} {Q : Value → Shared → Prop}
    (hC : h.get? C = some (excClassObj nm q C N bs bm hdct sn sub ab col dd k0 k1 k2 k3 k5 "Exception.__new__")) (hrest : rest.length ≤ sizeLine)
    (hq : wpAny (model prog w) (A.under (.builtin "type.__call__" ⟨.ref C :: rest, []⟩)) (call (.ref f) (.ref (h.objs.size + 1) :: rest)) (fun v s' => v = .none ∧ Q (.ref (h.objs.size + 1)) s') E ⟨(h.push { cls := .type "tuple", data := .seq rest.toArray }).push (excObj C h.objs.size), g, d, t, os⟩) :
    wpAny (model prog w) A (call (.ref C) rest) Q E ⟨h, g, d, t, os⟩ := by
  have f1 := tc_lookup
  have f2 := tc_bind (.ref C)
  have hT : (⟨h, g, d, t, os⟩ : Shared).TypeIs (.ref C) "type" := ⟨_, hC, rfl⟩
  refine wpAny_call (codeAny_of_tree ?_)
  show wpAny _ _ (callAny (.ref C) _) _ _ _
  repeat (any_goals (first | assumption | with_reducible refine wpAny_loadPart_at hC ?_ | wp_step))
  refine ⟨rfl, ?_⟩
  refine codeAny_call_builtin_at (Code.quiet_builtin _ (by decide +kernel)) entry_typeCall (wpAny_check_type_call_sub hC (exc_type_call hm X hi hf hC hrest ?_))
  exact hq
end
end Mine
end

section
open PySem PySem.W PySem.Calls PyProof.Rows
set_option maxRecDepth 100000
namespace Mine
section
variable {prog : Program} {w : World} {K : Frag} {A : Around} {E : Value → Shared → Prop} {s : Shared}

theorem ei_stub : Manifest.isStub "Exception" = false := by decide +kernel
theorem ei_find : findCls K (.type "Exception") (.type "type") "__init__" = some (.val (.builtin "Exception.__init__")) := by
  have e : ∀ K : Frag, findCls K (.type "Exception") (.type "type") "__init__" = findCls [] (.type "Exception") (.type "type") "__init__" := fun _ => rfl
  rw [e]; kernel_rfl
theorem ei_attr {expr : Bool} {Q : Value → Shared → Prop} (X : K.In s.heap) (h : ∀ tk, Q (.builtin "Exception.__init__") { s with toks := tk }) : wpAny (model prog w) A (getAttr (.type "Exception") "__init__" expr) Q E s := by
  have hstub : opaqueClassAbove (.type "Exception") = pure none := by unfold opaqueClassAbove; dsimp only; rw [ei_stub]; rfl
  have L0 : Looks (model prog w) s.heap (typeOf (.type "Exception")) (.type "type") := Looks.of_pure (kitMeta_of (by decide +kernel))
  have hg : findIn K (.type "type") "__getattribute__" = some (some (.builtin "type.__getattribute__")) := type_tga
  refine cls_open X (Looks.of_pure hstub) L0 hg (looks_hook X (r := none) (by rfl)) (by show subIn K _ _ = _; rfl) ei_find ?_
  exact wpAny_pure (handed_on rfl (h _))
theorem ei_method {pl : Sem Bool} {Q : Value × List Value → Shared → Prop} (X : K.In s.heap) (h : ∀ tk, Q (.builtin "Exception.__init__", []) { s with toks := tk }) : wpAny (model prog w) A (getMethod (.type "Exception") "__init__" pl) Q E s := by
  have L0 : Looks (model prog w) s.heap (typeOf (.type "Exception")) (.type "type") := Looks.of_pure (kitMeta_of (by decide +kernel))
  unfold getMethod specialOf
  refine wpAny_bind (wpAny_bind (L0.here ((Looks.of_pure KF.slot_tga.lookup).here ?_)))
  dsimp only
  rw [if_pos canon_tga]
  exact wpAny_bind (ei_attr X fun tk => wpAny_pure (h tk))

variable {C N : Addr} {nm q : Str} {bs bm : List Value} {hdct : Bool} {sn : List Str} {sub : List Value} {ab : Bool} {col : Option Bool} {dd : Option Addr} {k0 k1 k2 k3 k5 : Option Value}
theorem ei_check {h : Heap} {g : Array GenState} {d : Drawn} {t : Nat} {os : OsState} {e : Addr} {oe : Obj} {rest : List Value} {Q : Unit → Shared → Prop} (hm : ExcMro bm)
    (hC : h.get? C = some (excClassObj nm q C N bs bm hdct sn sub ab col dd k0 k1 k2 k3 k5 "Exception.__new__")) (he : h.get? e = some oe) (hcls : oe.cls = .ref C) (hq : Q () ⟨h, g, d, t, os⟩) :
    wpAny (model prog w) A (checkBuiltinCall "Exception.__init__" ⟨.ref e :: rest, []⟩) Q E ⟨h, g, d, t, os⟩ := by
  have F := PySem.F.excBase_Exception
  have hcB : (Value.ref C :: bm).contains (.type "Exception") = true := by rw [List.contains_cons, hm.exc, Bool.or_true]
  have hshort := F.noStar
  simp only [checkBuiltinCall, F.initKind, F.initSplit, F.initRow]
  repeat (first | (with_reducible refine wpAny_loadPart_at he ?_; rw [hcls]) | with_reducible refine wpAny_loadPart_at hC ?_ | (with_reducible refine wpAny_isSubtype_exc hC ?_; rw [hcB]) | wp_step)
  refine wpAny_onRaise ?_
  rw [show ∀ (a b : String) (n : Nat), Bind.check ⟨.positional, "*", "Exception", .self, [⟨"args", .varPos, false⟩]⟩ a b n (List.map (fun x => x.fst) ({ pos := Value.ref e :: rest } : Args).kw) = pure () from
    fun a b n => check_star_args _ _ _ _ _ _]
  exact wpAny_pure hq
theorem ei_call {e t₀ : Addr} {u : Value} {Q : Value → Shared → Prop} (hm : ExcMro bm) (hC : s.heap.get? C = some (excClassObj nm q C N bs bm hdct sn sub ab col dd k0 k1 k2 k3 k5 "Exception.__new__")) (he : s.heap.get? e = some (excObj C t₀))
    (h : ∀ h' t, h'.get? e = some (excObj C t) → (∀ b o, b ≠ e → s.heap.get? b = some o → h'.get? b = some o) → Q .none { s with heap := h' }) :
    wpAny (model prog w) A (call (.builtin "Exception.__init__") [.ref e, u]) Q E s := by
  have F := PySem.F.excBase_Exception
  have hcB : (Value.ref C :: bm).contains (.type "Exception") = true := by rw [List.contains_cons, hm.exc, Bool.or_true]
  obtain ⟨hh, g, d, t, os⟩ := s
  dsimp only at hC he h
  refine wpAny_call (codeAny_call_builtin F.init.plain F.initEntry (ei_check hm hC he rfl ?_))
  clear hm hcB
  wp_walk
  refine h _ hh.objs.size ?_ fun b o hb z => ?_
  · exact Heap.get?_update_self _ (Heap.get?_push_of_some _ he) rfl
  · rw [Heap.get?_update_other _ _ (Ne.symm hb)]; exact Heap.get?_push_of_some _ z
end
end Mine
end

section
open PySem PySem.W PySem.Calls PyProof.Rows
set_option maxRecDepth 100000
namespace Mine

structure ExcOk (K : Frag) (C : Addr) : Prop where
  obj : ∃ nm q N bs bm hdct sn sub ab col dd k0 k1 k2 k3 k5, K.lookup C = some (excClassObj nm q C N bs bm hdct sn sub ab col dd k0 k1 k2 k3 k5 "Exception.__new__") ∧ ExcMro bm
  keep : keepIn K (.ref C) = true
  st : StoreOk K C
  tk1 : takerIn K C "what" = some none
  tk2 : takerIn K C "at" = some none
  it : ∃ f fd e1 e2 e3 e4 e5 e6 a1 a2 a3 a4 b1 b2 b3 b4, findIn K (.ref C) "__init__" = some (some (.ref f)) ∧ DefOk K f fd ∧
    fd.body = .stmts [.Expr (.Call (.Attribute (.Name "Exception" e1) "__init__" e2) [.Name "self" e3, .Name "what" e4] [] e5) e6, stmt2 "self" "what" "what" a1 a2 a3 a4, stmt2 "self" "at" "at" b1 b2 b3 b4] ∧ (e2.endLine == e5.line) = true ∧
    (∀ S x u v, peek K S (bindArgs fd ⟨[x, u, v], []⟩) = some [(Str.ofString "self", x), (Str.ofString "what", u), (Str.ofString "at", v)]) ∧
    fd.scope.names.lookup (Str.ofString "self") = some .local ∧ fd.scope.names.lookup (Str.ofString "what") = some .local ∧ fd.scope.names.lookup (Str.ofString "at") = some .local ∧ fd.scope.names.lookup (Str.ofString "Exception") = some .globalImplicit ∧
    fd.globals = mainGlobals ∧ fd.builtins = builtinsNs
  gl : nsIn K mainGlobals "Exception" = some none
  gb : bootBuiltins "Exception" = some (.type "Exception")

section
variable {prog : Program} {w : World} {A : Around} {E : Value → Shared → Prop} {s : Shared}
theorem spliced_two {t1 t2 : Sem Value} {Q : List Value → Shared → Prop} (h : wpAny (model prog w) A t1 (fun u s₁ => wpAny (model prog w) A t2 (fun v s₂ => Q [u, v] s₂) E s₁) E s) : wpAny (model prog w) A (spliced [(false, t1), (false, t2)]) Q E s := by
  show wpAny _ _ (t1 >>= fun u => (pure [u] : Sem (List Value)) >>= fun here => holding here (spliced [(false, t2)]) >>= fun r => pure (here ++ r)) _ _ _
  refine wpAny_bind (wpAny_mono h (fun u s₁ h₁ => wpAny_bind (wpAny_pure (wpAny_bind (wpAny_holding ?_)))) fun _ _ z => z)
  show wpAny _ _ (t2 >>= fun u => (pure [u] : Sem (List Value)) >>= fun here => holding here (spliced []) >>= fun r => pure (here ++ r)) _ _ _
  exact wpAny_bind (wpAny_mono h₁ (fun v s₂ h₂ => wpAny_bind (wpAny_pure (wpAny_bind (wpAny_holding (wpAny_pure (wpAny_pure (wpAny_pure h₂))))))) fun _ _ z => z)

/-- a method's call by its line -/
theorem method_arm {env : Env} {o : Expr} {name : Str} {apos pos : Pos} {es : List Expr} (hp : (plainBase o && decide (es.length < 29) && (apos.endLine == pos.line)) = true) (hes : (starEach es env).any (·.1) = false) :
    eval (.Call (.Attribute o name apos) es [] pos) env = (do
      let ov ← eval o env
      standAt apos.atName
      let (f, first) ← holding [ov] (getMethod ov name (do return (← importBound o env).getD true))
      callWith pos f first (backTo pos (starEach es env)) []) := by
  rw [Bool.and_eq_true, Bool.and_eq_true] at hp
  obtain ⟨⟨hp, hlen⟩, hline⟩ := hp
  have hlen := of_decide_eq_true hlen
  have e0 : eval (.Call (.Attribute o name apos) es [] pos) env = (eval o env >>= fun ov => standAt apos.atName >>= fun _ =>
      methodCall o name apos pos env ov (es.length + 0) (backTo pos (starEach es env)) []) := by
    cases o <;> first | rfl | cases hp
  rw [e0]
  have few : methodCallForm (es.length + 0) (backTo pos (starEach es env)) [] = true := by
    unfold methodCallForm
    rw [backTo_all pos hes]
    simp; omega
  have eP : methodCallPos true o env apos pos = pure pos := by
    unfold methodCallPos
    rw [hline]; rfl
  unfold methodCall
  rw [few, eP]
  rfl
end

section
variable {prog : Program} {w : World} {K : Frag} {p : Program} {loose : List Str} {mean : ExcName → Option Value} {mg mb : Str → Option Value} {g₀ : Heap} {A : Around} {E : Value → Shared → Prop} {s : Shared} {C : Addr} {u v : Value}

theorem exc_call {Q : Value → Shared → Prop} (O : TopOk K p loose mean mg mb g₀) (k₀ : ∀ b o, g₀.get? b = some o → s.heap.get? b = some o) (X : ExcOk K C) (hroom : A.depth + 1 < recursionLimit)
    (h : ∀ h' e dx t h1 t1 h2 t2 tk n, s.heap.get? e = none → s.heap.get? dx = none → s.heap.objs.size ≤ e → e ≠ dx → h'.get? e = some { excObj C t with dict := some dx } → h'.get? dx = some (dictOf (excEs h1 t1 u h2 t2 v) n) → (∀ b o, s.heap.get? b = some o → h'.get? b = some o) → Q (.ref e) { s with heap := h', toks := tk }) :
    wpAny (model prog w) A (call (.ref C) [u, v]) Q E s := by
  obtain ⟨nm, q, N, bs, bm, hdct, sn, sub, ab, col, dd, k0, k1, k2, k3, k5, hK, hm⟩ := X.obj
  obtain ⟨f, fd, e1, e2, e3, e4, e5, e6, a1, a2, a3, a4, b1, b2, b3, b4, hi, D, hbody, hline, hbind, l1, l2, l3, l4, hg, hbl⟩ := X.it
  obtain ⟨hh, g, d, t, os⟩ := s
  dsimp only at k₀ h
  have X0 : K.In hh := O.X.keeps k₀
  have hC := X0 _ _ hK
  refine exc_core hm X0 hi D.typ hC (by rw [sizeLine_eq]; simp) ?_
  have k : ∀ b o, hh.get? b = some o → ((hh.push { cls := .type "tuple", data := .seq [u, v].toArray }).push (excObj C hh.objs.size)).get? b = some o := fun b o e => Heap.get?_push_of_some _ (Heap.get?_push_of_some _ e)
  have he : ((hh.push { cls := .type "tuple", data := .seq [u, v].toArray }).push (excObj C hh.objs.size)).get? (hh.objs.size + 1) = some (excObj C hh.objs.size) := by heap_get
  have ne : hh.get? (hh.objs.size + 1) = none := Heap.get?_none_of_le (Nat.le_succ _)
  have le : hh.objs.size ≤ hh.objs.size + 1 := Nat.le_succ _
  generalize (hh.push { cls := .type "tuple", data := .seq [u, v].toArray }).push (excObj C hh.objs.size) = h₁ at k he ⊢
  generalize hh.objs.size + 1 = e at he ne le ⊢
  have X1 := X0.keeps k
  refine wpAny_call (def_call D X1 ((O.T.nolimit.keeps k₀).keeps k) (by show A.depth + 1 < _; exact hroom) hbody (fun S => hbind S _ _ _) (fun y hy => ?_) fun h₀ hns kk => ?_)
  · simp only [List.mem_cons, List.not_mem_nil, or_false] at hy
    rcases hy with rfl | rfl | rfl
    · exact l1
    · exact l2
    · exact l3
  have X2 := X1.keeps kk
  have he2 := kk _ _ he
  have kall : ∀ b o, hh.get? b = some o → h₀.get? b = some o := fun b o z => kk _ _ (k _ _ z)
  have hC2 := kall _ _ hC
  have gE : ∀ {s' : Shared} {A' : Around} {Q' : Value → Shared → Prop} {E' : Value → Shared → Prop} {L : Addr} {pos : Pos}, (∀ b o, hh.get? b = some o → s'.heap.get? b = some o) → Q' (.type "Exception") s' →
      wpAny (model prog w) A' (eval (.Name "Exception" pos) (callEnv fd L f)) Q' E' s' := by
    intro s' A' Q' E' L pos kk' q'
    have k2 : ∀ b o, g₀.get? b = some o → s'.heap.get? b = some o := fun b o z => kk' _ _ (k₀ _ _ z)
    refine Calls.Name_function_global D.kind l4 ?_ (by decide)
    exact Calls.loadGlobal_builtin (show s'.heap.Ns fd.globals mg from hg ▸ O.T.g.keeps k2) (mg_none_of O.X O.T.g X.gl) (show s'.heap.Ns fd.builtins mb from hbl ▸ O.T.b.keeps k2) ((O.T.builtins "Exception" (by decide)).trans X.gb) q'
  refine wpAny_execs_cons (wpAny_Expr (hi := by unfold interactive; rw [show (callEnv fd h₁.objs.size f).scope.kind = .function from D.kind]; rfl) (hs := rfl) ?_)
  rw [method_arm (by rw [hline]; rfl) rfl]
  refine wpAny_bind (gE kall (wpAny_bind (wpAny_standAt ?_)))
  refine wpAny_bind (wpAny_holding (ei_method (s := { heap := h₀, gens := g, drawn := d, toks := _, os := os }) X2 fun tk => ?_))
  refine callWith_method1 (spliced_two ?_)
  refine load_local (env := callEnv fd h₁.objs.size f) D.kind l1 (by decide) hns rfl ?_
  refine load_local (env := callEnv fd h₁.objs.size f) D.kind l2 (by decide) hns rfl ?_
  refine ei_call (t₀ := hh.objs.size) (s := { heap := h₀, gens := g, drawn := d, toks := tk, os := os }) hm hC2 he2 fun h3 t3 he3 k3 => ?_
  have neL : e ≠ h₁.objs.size := Nat.ne_of_lt (Heap.lt_size he)
  have kh3 : ∀ b o, hh.get? b = some o → h3.get? b = some o := fun b o z => k3 b o (fun q => by rw [q, ne] at z; cases z) (kall _ _ z)
  have hns3 : h3.Ns h₁.objs.size (fun y => [(Str.ofString "self", Value.ref e), (Str.ofString "what", u), (Str.ofString "at", v)].reverse.lookup y) := by
    obtain ⟨oL, es, ep, hL, r⟩ := hns
    exact ⟨oL, es, ep, k3 _ _ (Ne.symm neL) hL, r⟩
  refine wpAny_execs_cons (store_stmt (x := e) (v := u) D.kind l1 l2 (by decide) (by decide) hns3 rfl rfl ?_)
  refine store_first (s := { heap := h3, gens := g, drawn := d, toks := tk, os := os }) (es' := fun h t => [⟨h, .str "what" t, u⟩]) (n' := 1) (X0.keeps kh3) X.st ⟨he3, rfl, rfl, trivial⟩ rfl X.tk1 (fun _ _ => rfl) (fun _ _ => by simp) ⟨_, rfl⟩ fun h4 i1 t1 tk1 dx n4 d4 e4 k4 => ?_
  have hdx : hh.get? dx = none := by
    cases z : hh.get? dx with
    | none => rfl
    | some o => rw [kh3 _ _ z] at n4; cases n4
  have nedx : e ≠ dx := fun q => by rw [← q, he3] at n4; cases n4
  have kh4 : ∀ b o, hh.get? b = some o → h4.get? b = some o := fun b o z => k4 b o (fun q => by rw [q, ne] at z; cases z) (kh3 _ _ z)
  have hns4 : h4.Ns h₁.objs.size (fun y => [(Str.ofString "self", Value.ref e), (Str.ofString "what", u), (Str.ofString "at", v)].reverse.lookup y) := by
    obtain ⟨oL, es, ep, hL, r⟩ := hns3
    exact ⟨oL, es, ep, k4 _ _ (Ne.symm neL) hL, r⟩
  have neLx : h₁.objs.size ≠ dx := fun q => by
    obtain ⟨oL, es, ep, hL, r⟩ := hns3
    rw [q, n4] at hL; cases hL
  refine wpAny_execs_cons (store_stmt (x := e) (v := v) D.kind l1 l3 (by decide) (by decide) hns4 rfl rfl ?_)
  refine store_own (s := { heap := h4, gens := g, drawn := d, toks := tk1, os := os }) (es' := fun h t => excEs i1 t1 u h t v) (n' := 2) (X0.keeps kh4) X.st ⟨e4, rfl, rfl, d4⟩ rfl X.tk2 rfl (fun _ _ => rfl) (fun _ _ => by simp) fun h5 i2 t2 tk2 q2 s2 => ?_
  refine wpAny_execs_nil ⟨rfl, ?_⟩
  refine h h5 e dx t3 i1 t1 i2 t2 tk2 2 ne hdx le nedx ((s2.2 e nedx).trans e4) q2 fun b o z => (s2.2 b (fun q => by rw [q, hdx] at z; cases z)).trans (kh4 _ _ z)
end
end Mine
end

section
open PySem PySem.W PySem.Calls PyProof.Rows
set_option maxRecDepth 100000
namespace Mine

noncomputable abbrev isExcC (C : Addr) : Prop := C = 59 ∨ C = 71 ∨ C = 83

/-- what is asked of the classes -/
structure ClsOk (K : Frag) : Prop where
  wire : WireOk K
  init : WireInit K
  exc : ∀ C, isExcC C → ExcOk K C

section
variable {prog : Program} {w : World} {K : Frag} {p : Program} {loose : List Str} {mean : ExcName → Option Value} {mg mb : Str → Option Value} {g₀ : Heap} {c : Cx} {fr : List Fm} {d : Nat} {m : Lo}
  {σ σ' : List TO} {r : Ex AV} {g : Gh} {mm : Str → Option Value} {s : Shared} {Q : Value → Shared → Prop} {E : Value → Shared → Prop}

theorem track_frz {g₀ : Heap} {g : Gh} {fr : List Fm} {σ : List TO} {h h' : Heap} {a b : Addr} {o : Obj} {n : Nat} (I : Inv g₀ g fr σ h) (e : h'.get? b = some o) (hn : h.get? b = none) (hb : b ≠ a) : ((g.grown fr h').track n a).frz b = some o := by
  show (if b = a then none else (g.grown fr h').frz b) = some o
  rw [if_neg hb]
  exact I.grown_new e hn

/-- an exception is made, whatever is handled -/
theorem exc_made {C : Addr} {x : List Nat} {a : Int} {u v : Value} {A : Around} {fr' : List Fm} {g' : Gh} {Q : Value → Shared → Prop} {E : Value → Shared → Prop} {s : Shared} (O : TopOk K p loose mean mg mb g₀) (X : ExcOk K C) (hroom : A.depth + 1 < recursionLimit) (I : Inv g₀ g' fr' σ s.heap) (hz : g₀.objs.size ≤ s.heap.objs.size)
    (hu : VR g' (.str x) u) (hv : VR g' (.int a) v)
    (q : ∀ e g₁ h₁ tk, g'.le g₁ → Inv g₀ g₁ fr' (σ ++ [.exc C a .fresh]) h₁ → g₁.loc σ.length = some e → ExNew h₁ e → Q (.ref e) { s with heap := h₁, toks := tk }) : wpAny (model prog w) A (call (.ref C) [u, v]) Q E s := by
  obtain ⟨t0, rfl⟩ := hv
  refine exc_call O (fun b o z => I.fz _ _ (I.base _ _ z)) X hroom fun h' e dx t h1 t1 h2 t2 tk n ne ndx le nedx he hdx kp => ?_
  have fdx := track_frz (n := σ.length) I hdx ndx (Ne.symm nedx)
  have hT := I.track (t := .exc C a .fresh) kp ne (Nat.le_trans hz le) ⟨dx, _, _, h1, t1, u, h2, t2, t0, n, he, fdx, rfl, rfl, rfl⟩
  exact q e _ h' tk hT.1 hT.2 (by simp [Gh.track]) ⟨_, _, he, rfl, rfl, rfl⟩

theorem callC_ok {a : Addr} {as : List AV} {us : List Value} (O : TopOk K p loose mean mg mb g₀) (X : ClsOk K) (hx : callC σ a as = some (r, σ')) (ha : VRs g as us) (st : St g₀ c fr d m σ g mm s.heap) (fin : Fin VR g₀ c fr mm r σ' g s Q E) :
    (∃ k, Looks (model prog w) s.heap (keeperOf (.ref a)) k) ∧ wpS (model prog w) c.A (call (.ref a) us) Q E s := by
  have kp : ∀ b o, g₀.get? b = some o → s.heap.get? b = some o := fun b o e => st.I.fz _ _ (st.I.base _ _ e)
  have X0 : K.In s.heap := O.X.keeps kp
  have room := st.R.1
  unfold callC at hx
  split at hx
  · rename_i e
    subst e
    refine ⟨let ⟨k, _, h⟩ := looks_keep (M := model prog w) X.init.keep X0; ⟨k, h⟩, ?_⟩
    split at hx
    · rename_i b
      simp only [Option.some.injEq, Prod.mk.injEq] at hx
      obtain ⟨rfl, rfl⟩ := hx
      obtain ⟨u, rfl, t0, rfl⟩ := ha.one
      refine wpS.of (wire_call X.init X0 (O.T.nolimit.keeps kp) (by omega) fun h' x dx h1 t1 h2 t2 tz tk n nx ndx le nxd hx hdx k => ?_)
      have fx := track_frz (n := σ.length) st.I hx nx nxd
      have hT := st.I.track (t := .wire b 0) k ndx (Nat.le_trans st.I.size_le le) ⟨h1, t1, t0, h2, t2, tz, n, hdx⟩
      exact fin.ok _ rfl _ _ h' tk hT.1 hT.2 ⟨x, dx, rfl, fx, by simp [Gh.track]⟩
    · cases hx
  · split at hx
    · rename_i hC
      refine ⟨let ⟨k, _, h⟩ := looks_keep (M := model prog w) (X.exc a hC).keep X0; ⟨k, h⟩, ?_⟩
      split at hx
      · rename_i x i
        simp only [mk, Option.some.injEq, Prod.mk.injEq] at hx
        obtain ⟨rfl, rfl⟩ := hx
        obtain ⟨u, v, rfl, hu, hv⟩ := ha.two
        refine wpS.of (exc_made (x := x) (a := i) O (X.exc a hC) (by omega) st.I st.I.size_le hu hv fun e g₁ h₁ tk le I l _ => ?_)
        exact fin.ok _ rfl _ g₁ h₁ tk le I ⟨e, rfl, l⟩
      · cases hx
    · cases hx

theorem call_ok {FT : Addr → Option Fn} {n : Nat} (O : TopOk K p loose mean mg mb g₀) (X : ClsOk K) (C : CxOk c) (hy : FnOk prog w g₀ c fr d m (fun a as σ => evFn K FT n d a as σ)) : CallOk prog w g₀ c fr d m (fun f as σ => evCall K FT (n + 1) d f as σ) := by
  intro f as u us σ r σ' g mm s Q E hx hf ha st fin
  dsimp only at hx
  rw [evCall_s] at hx
  split at hx
  · rename_i a
    obtain rfl : u = .ref a := hf
    split at hx
    · exact callC_ok O X hx ha st fin
    · exact hy hx ha st fin
  · rename_i f' _
    obtain rfl : u = f' := hf
    exact callB_ok C hx ha st fin
  · cases hx
end
end Mine
end

section
open PySem PySem.W PySem.Calls PyProof.Rows
set_option maxRecDepth 100000
namespace Mine

/-- what a loop walks -/
inductive Src where
  | str (x : List Nat) (t : Tok)
  | bytes (b : List UInt8) (t : Tok)
  | tup (a : Addr) (items : Array Value)
  | range (n : Nat)
  | lst (a : Addr) (items : Array Value)

noncomputable def itP : Src → Nat → Obj → Prop
  | .str x t, i, o => o.cls = .type "str_ascii_iterator" ∧ o.data = .fields #[.str ⟨x.toArray⟩ t, .int i 0]
  | .bytes b t, i, o => o.cls = .type "bytes_iterator" ∧ o.data = .fields #[.bytes b.toArray t, .int i 0]
  | .tup a _, i, o => o.cls = .type "tuple_iterator" ∧ o.data = .fields #[.ref a, .int i 0]
  | .lst a _, i, o => o.cls = .type "list_iterator" ∧ o.data = .fields #[.ref a, .int i 0]
  | .range n, i, o => o = { cls := .type "range_iterator", dict := none, data := .fields #[rawInt i, rawInt ((n : Int) - i), rawInt 1], slots := #[] }

theorem itP_range {n i : Nat} : itP (.range n) (i + 1) { cls := .type "range_iterator", dict := none, data := .fields #[rawInt ((i : Int) + 1), rawInt ((n : Int) - i - 1), rawInt 1], slots := #[] } := by
  simp only [itP]
  rw [show ((i + 1 : Nat) : Int) = (i : Int) + 1 by omega, show (n : Int) - ((i : Int) + 1) = (n : Int) - i - 1 by omega]

/-- the source gives these -/
noncomputable def SrcOk (g : Gh) (vs : List AV) : Src → Prop
  | .str x _ => ascii x = true ∧ vs = x.map fun c => .str [c]
  | .bytes b _ => vs = b.map fun c => .int (c.toNat : Int)
  | .tup a items => (∃ n, g.frz a = some (tupObj items n)) ∧ VRs g vs items.toList
  | .lst a items => (∃ o n, g.frz a = some o ∧ o.cls = .type "list" ∧ o.data = .seq items n) ∧ VRs g vs items.toList
  | .range n => vs = (List.range n).map fun i => .int (Int.ofNat i)
theorem SrcOk.mono {g g' : Gh} {vs : List AV} (k : g.le g') : ∀ {src : Src}, SrcOk g vs src → SrcOk g' vs src
  | .str _ _, h => h
  | .bytes _ _, h => h
  | .tup _ _, ⟨⟨n, e⟩, r⟩ => ⟨⟨n, k.1 _ _ e⟩, r.mono k⟩
  | .lst _ _, ⟨⟨o, n, e, z⟩, r⟩ => ⟨⟨o, n, k.1 _ _ e, z⟩, r.mono k⟩
  | .range _, h => h

section
variable {g₀ : Heap} {g : Gh} {fr : List Fm} {σ : List TO} {h h' : Heap}
/-- what stood beside is changed a last time and let go -/
theorem Inv.drop {p : Fm} (I : Inv g₀ g (p :: fr) σ h) (k : ∀ b o, b ≠ p.1 → h.get? b = some o → h'.get? b = some o) : g.le (g.grown fr h') ∧ Inv g₀ (g.grown fr h') fr σ h' := by
  have J := I.pop0
  have np : g.frz p.1 = none := (I.fs p (.head _)).2.1
  have kz : ∀ b o, g.frz b = some o → h'.get? b = some o := fun b o e => k b o (fun q => by rw [q, np] at e; cases e) (I.fz b o e)
  have le : g.le (g.grown fr h') := by
    refine ⟨fun b o e => ?_, fun _ _ e => e⟩
    have : ¬ g.mut fr b := fun m => by rw [J.mut_none m] at e; cases e
    simp only [Gh.grown, this, if_false]
    exact kz b o e
  have nf : ∀ q ∈ fr, q.1 ≠ p.1 := fun q hq e => (List.nodup_cons.mp I.nd).1 (List.mem_map.mpr ⟨q, hq, e⟩)
  refine ⟨le, fun b o e => le.1 b o (I.base b o e), fun b o e => ?_, fun q hq => ?_, J.nd, fun i t e => ?_, fun i a l => ?_, I.inj⟩
  · simp only [Gh.grown] at e
    split at e
    · cases e
    · exact e
  · obtain ⟨⟨o, ho, z⟩, r⟩ := J.fs q hq
    exact ⟨⟨o, k _ _ (nf q hq) ho, z⟩, by simp [Gh.grown, Gh.mut, List.mem_map_of_mem hq], r.2⟩
  · obtain ⟨a, l, r⟩ := I.so i t e
    refine ⟨a, l, r.mono le fun o z => k _ _ (fun q => ?_) z⟩
    exact (I.lo i a l).2.2.1 (q ▸ .head _)
  · refine ⟨(J.lo i a l).1, ?_, (J.lo i a l).2.2⟩
    have : g.mut fr a := .inr ⟨i, l⟩
    simp [Gh.grown, this]
/-- what stands beside is changed -/
theorem Inv.turn {a : Addr} {P P' : Obj → Prop} (I : Inv g₀ g ((a, P) :: fr) σ h) (hn : ∃ o, h'.get? a = some o ∧ P' o) (hs : Heap.SameBut a h h') : Inv g₀ g ((a, P') :: fr) σ h' := I.store hn hs
end

section
variable {prog : Program} {w : World} {A : Around} {E : Value → Shared → Prop} {s : Shared} {g₀ : Heap} {g : Gh} {fr : List Fm} {σ : List TO} {vs : List AV}

/-- the next item -/
theorem it_item {it : Addr} {src : Src} {i : Nat} {v : AV} {Q : Option Value → Shared → Prop} (I : Inv g₀ g ((it, itP src i) :: fr) σ s.heap) (S : SrcOk g vs src) (hv : vs[i]? = some v)
    (q : ∀ u h' tk, Inv g₀ g ((it, itP src (i + 1)) :: fr) σ h' → VR g v u → Q (some u) { s with heap := h', toks := tk }) : wpAny (model prog w) A (pyNext (.ref it)) Q E s := by
  obtain ⟨⟨o, ho, hP⟩, _⟩ := I.fs _ (.head _)
  cases src with
  | str x t =>
    obtain ⟨ha, rfl⟩ := S
    rw [List.getElem?_map] at hv
    simp only [Option.map_eq_some_iff] at hv
    obtain ⟨c, hc, rfl⟩ := hv
    refine wpAny_pyNext_ascii_item ⟨o, ho, hP.1, hP.2⟩ (c := c) (by simpa using hc) fun h' hit hs => ?_
    obtain ⟨o', ho', h1, h2⟩ := hit
    exact q _ _ _ (I.turn ⟨o', ho', h1, h2⟩ hs) ⟨_, rfl⟩
  | bytes b t =>
    obtain rfl := S
    rw [List.getElem?_map] at hv
    simp only [Option.map_eq_some_iff] at hv
    obtain ⟨c, hc, rfl⟩ := hv
    refine KBw.next_item (b := b.toArray) (t := t) (i := i) (c := c) ⟨o, ho, hP.1, hP.2⟩ (by simpa using hc) fun h' hit hs => ?_
    obtain ⟨o', ho', h1, h2⟩ := hit
    exact q _ _ _ (I.turn ⟨o', ho', h1, h2⟩ hs) ⟨_, rfl⟩
  | tup a items =>
    obtain ⟨⟨n, hf⟩, hr⟩ := S
    obtain ⟨u, hu, ru⟩ := hr.get hv
    refine wpAny_pyNext_tuple_item (t := a) (i := i) (items := items) (x := u) ⟨o, ho, hP.1, hP.2⟩ ⟨_, I.fz _ _ hf, rfl, n, rfl⟩ (by rw [← Array.getElem?_toList]; exact hu) fun h' hit hs => ?_
    obtain ⟨o', ho', h1, h2⟩ := hit
    exact q _ _ s.toks (I.turn ⟨o', ho', h1, h2⟩ hs) ru
  | lst a items =>
    obtain ⟨⟨oo, n, hf, hc, hd⟩, hr⟩ := S
    obtain ⟨u, hu, ru⟩ := hr.get hv
    refine wpAny_pyNext_list_item (l := a) (i := i) (items := items) (x := u) ⟨o, ho, hP.1, hP.2⟩ ⟨_, I.fz _ _ hf, hc, n, hd⟩ (by rw [← Array.getElem?_toList]; exact hu) fun h' hit hs => ?_
    obtain ⟨o', ho', h1, h2⟩ := hit
    exact q _ _ s.toks (I.turn ⟨o', ho', h1, h2⟩ hs) ru
  | range n =>
    obtain rfl := S
    have hi : i < n := by simpa using (List.getElem?_eq_some_iff.mp hv).1
    rw [List.getElem?_map, List.getElem?_range hi] at hv
    cases hv
    refine wpAny_pyNext_range_item (x := i) (left := (n : Int) - i) (step := 1) (by show s.heap.get? it = _; rw [ho, show o = _ from hP]) (by omega) fun h' hit hs => ?_
    exact q _ _ _ (I.turn (P' := itP (.range n) (i + 1)) ⟨_, hit, itP_range⟩ hs) ⟨_, rfl⟩
theorem it_end {it : Addr} {src : Src} {i : Nat} {Q : Option Value → Shared → Prop} (hh : A.handled = none) (I : Inv g₀ g ((it, itP src i) :: fr) σ s.heap) (S : SrcOk g vs src) (hv : vs[i]? = none)
    (q : ∀ g' h', g.le g' → Inv g₀ g' fr σ h' → Q none { s with heap := h' }) : wpAny (model prog w) A (pyNext (.ref it)) Q E s := by
  obtain ⟨⟨o, ho, hP⟩, _⟩ := I.fs _ (.head _)
  have fin : ∀ h', Heap.ExtBut it s.heap h' → Q none { s with heap := h' } := fun h' he => by
    obtain ⟨le, J⟩ := I.drop (h' := h') fun b o hb z => he b o hb z
    exact q _ h' le J
  cases src with
  | str x t =>
    obtain ⟨ha, rfl⟩ := S
    exact wpAny_pyNext_ascii_end hh ⟨o, ho, hP.1, hP.2⟩ (by simpa using hv) fin
  | bytes b t =>
    obtain rfl := S
    exact KBw.next_end hh (b := b.toArray) (t := t) (i := i) ⟨o, ho, hP.1, hP.2⟩ (by simpa using hv) fin
  | tup a items =>
    obtain ⟨⟨n, hf⟩, hr⟩ := S
    have hl := hr.length
    exact wpAny_pyNext_tuple_end hh (t := a) (i := i) (items := items) ⟨o, ho, hP.1, hP.2⟩ ⟨_, I.fz _ _ hf, rfl, n, rfl⟩ (by simp only [List.getElem?_eq_none_iff] at hv; simp; rw [Array.length_toList] at hl; omega) fin
  | lst a items =>
    obtain ⟨⟨oo, n, hf, hc, hd⟩, hr⟩ := S
    have hl := hr.length
    exact wpAny_pyNext_list_end hh (l := a) (i := i) (items := items) ⟨o, ho, hP.1, hP.2⟩ ⟨_, I.fz _ _ hf, hc, n, hd⟩ (by simp only [List.getElem?_eq_none_iff] at hv; simp; rw [Array.length_toList] at hl; omega) fin
  | range n =>
    obtain rfl := S
    have hi : n ≤ i := by simpa using hv
    exact wpAny_pyNext_range_end hh (x := i) (left := (n : Int) - i) (step := 1) (by show s.heap.get? it = _; rw [ho, show o = _ from hP]) (by omega) fin
theorem it_self {it : Addr} {src : Src} {i : Nat} {Q : Value → Shared → Prop} (I : Inv g₀ g ((it, itP src i) :: fr) σ s.heap) (q : Q (.ref it) s) : wpAny (model prog w) A (pyIter (.ref it)) Q E s := by
  obtain ⟨⟨o, ho, hP⟩, _⟩ := I.fs _ (.head _)
  cases src with
  | str x t => exact wpAny_pyIter_striter_ascii ⟨o, ho, hP.1, hP.2⟩ q
  | bytes b t => exact KBw.pyIter_self (b := b.toArray) (t := t) (i := i) ⟨o, ho, hP.1, hP.2⟩ q
  | tup a items => exact wpAny_pyIter_tupleiter (t := a) (i := i) ⟨o, ho, hP.1, hP.2⟩ q
  | lst a items => exact wpAny_pyIter_listiter (l := a) (i := i) ⟨o, ho, hP.1, hP.2⟩ q
  | range n => exact wpAny_pyIter_rangeiter (x := i) (left := (n : Int) - i) (step := 1) (by show s.heap.get? it = _; rw [ho, show o = _ from hP]) q

/-- a loop's start -/
theorem it_start {K : Frag} {a : AV} {u : Value} {p : Fm} {Q : Value → Shared → Prop} (X : K.In g₀) (I : Inv g₀ g (p :: fr) σ s.heap) (hx : iterA K σ a = some vs) (hu : VR g a u)
    (q : ∀ it src h', SrcOk g vs src → Inv g₀ g ((it, itP src 0) :: p :: fr) σ h' → Q (.ref it) { s with heap := h' }) : wpAny (model prog w) A (pyIter u) Q E s := by
  have push : ∀ o : Obj, ∀ b o', s.heap.get? b = some o' → (s.heap.push o).get? b = some o' := fun o b o' z => Heap.get?_push_of_some _ z
  have tup : ∀ {a' : AV}, tupItems K a' = some vs → VR g a' u → wpAny (model prog w) A (pyIter u) Q E s := fun e hu => by
    obtain ⟨x, items, n, rfl, f, z⟩ := tup_at X I hu e
    refine wpAny_pyIter_tuple ⟨_, I.fz _ _ f, rfl, n, rfl⟩ ?_
    exact q s.heap.objs.size (.tup x items) _ ⟨⟨n, f⟩, z⟩ (I.push (push _) (get_size _) I.size_le ⟨_, Heap.get?_push_size _ rfl, rfl, rfl⟩)
  unfold iterA at hx
  split at hx
  · rename_i x
    obtain ⟨t, rfl⟩ := hu
    split at hx
    · rename_i ha
      cases hx
      refine wpAny_pyIter_ascii (by simpa [ascii] using ha) ?_
      exact q s.heap.objs.size (.str x t) _ ⟨ha, rfl⟩ (I.push (push _) (get_size _) I.size_le ⟨_, Heap.get?_push_size _ rfl, rfl, rfl⟩)
    · cases hx
  · rename_i b
    obtain ⟨t, rfl⟩ := hu
    cases hx
    refine KBw.pyIter_bytes ?_
    exact q s.heap.objs.size (.bytes b t) _ rfl (I.push (push _) (get_size _) I.size_le ⟨_, Heap.get?_push_size _ rfl, rfl, rfl⟩)
  · obtain ⟨a, o, items, n, rfl, f, hc, hd, z⟩ := hu
    cases hx
    refine wpAny_pyIter_list ⟨o, I.fz _ _ f, hc, n, hd⟩ ?_
    exact q s.heap.objs.size (.lst a items) _ ⟨⟨o, n, f, hc, hd⟩, z⟩ (I.push (push _) (get_size _) I.size_le ⟨_, Heap.get?_push_size _ rfl, rfl, rfl⟩)
  · exact tup hx hu
end
end Mine
end

section
open PySem PySem.W PySem.Calls PyProof.Rows
set_option maxRecDepth 100000
namespace Mine

theorem Inv.perm {g₀ : Heap} {g : Gh} {fr fr' : List Fm} {σ : List TO} {h : Heap} (I : Inv g₀ g fr σ h) (p : fr.Perm fr') : Inv g₀ g fr' σ h where
  base := I.base
  fz := I.fz
  fs := fun q hq => I.fs q (p.mem_iff.mpr hq)
  nd := (p.map (·.1)).nodup_iff.mp I.nd
  so := I.so
  lo := fun i a l => let ⟨x1, x2, x3, x4⟩ := I.lo i a l; ⟨x1, x2, fun m => x3 ((p.map (·.1)).mem_iff.mpr m), x4⟩
  inj := I.inj
theorem FrIn.sub {fr fr' : List Fm} {envs : List Env} (x : FrIn fr envs) (k : ∀ p ∈ fr, p ∈ fr') : FrIn fr' envs := fun env he =>
  let ⟨hk, L, P, hf, hm, hs⟩ := x env he; ⟨hk, L, P, hf, k _ hm, hs⟩

theorem compOk_parts {sc : Scope} {x : Str} (h : compOk sc x = true) : sc.kind = .function ∧ (∀ y ∈ sc.names, y.2 ≠ .free) ∧ (∀ y ∈ sc.names, y.2 ≠ .cell) ∧ (∀ y ∈ sc.names, y.2 = .local → sc.names.lookup y.1 = some .local) ∧ sc.names.lookup x = some .local := by
  unfold compOk at h
  simp only [Bool.and_eq_true, beq_iff_eq, List.all_eq_true, bne_iff_ne, ne_eq, Bool.or_eq_true] at h
  obtain ⟨⟨hk, h2⟩, hx⟩ := h
  refine ⟨hk, fun y hy => (h2 y hy).1.1, fun y hy => (h2 y hy).1.2, fun y hy e => ?_, hx⟩
  rcases (h2 y hy).2 with z | z
  · exact absurd e z
  · exact z

theorem evComp_ok {K : Frag} {FT : Addr → Option Fn} {d : Nat} {el : IE} {t : Option IE} : ∀ {n : Nat} {vs : List AV} {σ σ' : List TO} {r : Ex (List AV)}, evComp K FT n d el t vs σ = some (r, σ') → ∃ xs, r = .ok xs
  | 0, _, _, _, _, h => by simp [evComp_0] at h
  | n + 1, [], _, _, _, h => by simp only [evComp_nil] at h; obtain ⟨rfl, _⟩ := ret_some h; exact ⟨_, rfl⟩
  | n + 1, v :: vs, σ, σ', r, h => by
    rw [evComp_cons] at h
    split at h
    · split at h
      · rcases bnd_split h with ⟨a, σ₁, h1, h2⟩ | ⟨i, h1, rfl⟩
        · obtain ⟨rfl, _⟩ := ret_some h2; exact ⟨_, rfl⟩
        · obtain ⟨xs, e⟩ := evComp_ok h1; cases e
      · cases h
    · exact evComp_ok h
    · cases h

section
variable {M : Model} {A : Around} {E : Value → Shared → Prop} {s : Shared}
theorem tests_noneS {env : Env} {Q : Bool → Shared → Prop} (h : Q true s) : wpS M A (forIn ([] : List Expr) true fun c r => if r = true then do let ok ← isTrue c env (eval c env); pure (ForInStep.yield ok) else pure (ForInStep.yield r)) Q E s := wpS_pure h
theorem tests_oneS {env : Env} {c : Expr} {Q : Bool → Shared → Prop} (h : wpS M A (isTrue c env (eval c env)) Q E s) :
    wpS M A (forIn [c] true fun c r => if r = true then do let ok ← isTrue c env (eval c env); pure (ForInStep.yield ok) else pure (ForInStep.yield r)) Q E s := by
  simp only [List.forIn_cons, List.forIn_nil, if_true]
  exact wpS_bind (wpS_bind (wpS_q h fun b s' hb => wpS_pure (wpS_pure hb)))
end

theorem append_at {prog : Program} {w : World} {A : Around} {E : Value → Shared → Prop} {s : Shared} {l : Addr} {items : Array Value} {n : Nat} {x : Value} {Q : Value → Shared → Prop} (hl : s.heap.get? l = some (lstObj items n)) (hz : items.size ≤ sizeLine)
    (hQ : ∀ h' n', h'.get? l = some (lstObj (items.push x) n') → Heap.SameBut l s.heap h' → Q .none { s with heap := h' }) : wpAny (model prog w) A (call (.builtin "list.append") [.ref l, x]) Q E s := by
  have hL := isList_of hl
  refine wpAny_call_entry slot_list_append hL.typeIs entry_list_append ?_ (args_list_append _ _)
  show wpAny _ _ (updateSeq l (·.push x) >>= fun _ => PySem.ret .none) _ _ s
  refine wpAny_bind ?_
  obtain ⟨n', e⟩ : ∃ n', Obj.mapSeq (·.push x) (lstObj items n) = lstObj (items.push x) n' := ⟨_, rfl⟩
  refine wpAny_updateSeq hl rfl (wpAny_pure ⟨.none, rfl, hQ _ n' ?_ (Heap.SameBut.update ..)⟩)
  rw [← e]
  exact Heap.get?_update_self _ hl rfl

/-- the context within a comprehension -/
noncomputable abbrev compCx (c : Cx) (csc : Scope) (C : Addr) (x : Str) : Cx := ⟨c.A, compEnv csc C c.env, C, c.Lf, [x], csc⟩

section
variable {prog : Program} {w : World} {K : Frag} {FT : Addr → Option Fn} {g₀ : Heap} {c : Cx} {fr : List Fm} {d : Nat} {mm : Str → Option Value} {s : Shared}

/-- how the items' trees are reckoned -/
structure CompSubs (prog : Program) (w : World) (K : Frag) (FT : Addr → Option Fn) (g₀ : Heap) (c : Cx) (d : Nat) (csc : Scope) (x : Str) (elt : Expr) (ifs : List Expr) (el : IE) (t : Option IE) (n : Nat) : Prop where
  el : ∀ C fr' m k, k < n → Sub prog w VR g₀ (compCx c csc C x) fr' d m (eval elt (compEnv csc C c.env)) (fun σ => evE K FT k d m el σ)
  te : (ifs = [] ∧ t = none) ∨ ∃ e t', ifs = [e] ∧ t = some t' ∧ ∀ C fr' m k, k < n → Sub prog w BR g₀ (compCx c csc C x) fr' d m (isTrue e (compEnv csc C c.env) (eval e (compEnv csc C c.env))) (fun σ => evT K FT k d m t' σ)

theorem comp_loop {csc : Scope} {x : Str} {px pos : Pos} {elt iter : Expr} {ifs : List Expr} {el : IE} {t : Option IE} {N : Nat} {C D it : Addr} {src : Src} {vs : List AV} {R : Result → Shared → Prop}
    (hh : c.A.handled = none) (hk : csc.kind = .function) (hx : csc.names.lookup x = some .local) (S : CompSubs prog w K FT g₀ c d csc x elt ifs el t N) (F : ∃ envs, c.A.frames = some envs ∧ FrIn ((c.L, frmP mm) :: fr) envs) (hR : Room c.A d) :
    ∀ (n : Nat), n ≤ N → ∀ (rem : List AV) (i : Nat) (σ σ' : List TO) (xs acc : List AV), evComp K FT n d el t rem σ = some (.ok xs, σ') → vs.drop i = rem → acc.length + xs.length ≤ 100000 →
      ∀ (g : Gh) (h : Heap) (tk : Nat) (items : Array Value) (na : Nat) (mmC : Str → Option Value), Inv g₀ g ((C, frmP mmC) :: (D, justP (lstObj items na)) :: (it, itP src i) :: (c.L, frmP mm) :: fr) σ h → SrcOk g vs src → VRs g acc items.toList →
        (∀ g' h' tk' items' n' mmC', g.le g' → Inv g₀ g' ((C, frmP mmC') :: (D, justP (lstObj items' n')) :: (c.L, frmP mm) :: fr) σ' h' → VRs g' (acc ++ xs) items'.toList → R (.ok .next) { s with heap := h', toks := tk' }) →
        codeS (model prog w) c.A (.compLoop (.ListComp elt [⟨.Name x px, iter, ifs, 0⟩] csc pos) 0 (.ref it) (.ref D) (compEnv csc C c.env)) R { s with heap := h, toks := tk } := by
  intro n
  induction n with
  | zero => intro _ rem i σ σ' xs acc hx'; simp [evComp_0] at hx'
  | succ n ih =>
    intro hN rem i σ σ' xs acc hev hdrop hlen g h tk items na mmC I hS hacc fin
    refine codeS_of_tree rfl ?_
    rw [Around.under_of_weight rfl]
    show wpS _ _ ((compTurn (.ListComp elt [⟨.Name x px, iter, ifs, 0⟩] csc pos) 0 (.ref it) (.ref D) (compEnv csc C c.env)).onRaise (fun x => do noteFrame x (compEnv csc C c.env); theTreesLotGoes x)) _ _ _
    refine wpS_onRaise (wpS_mono (Q := fun fin s' => match fin with | .done f => R (.ok f) s' | .again c' => c'.quiet = true ∧ codeS (model prog w) c.A c' R s') (E := fun _ _ => False) ?_ (fun _ _ z => z) fun _ _ z => z.elim)
    rw [compTurn_list]
    refine wpS_stand ?_
    have Iit : Inv g₀ g ((it, itP src i) :: (C, frmP mmC) :: (D, justP (lstObj items na)) :: (c.L, frmP mm) :: fr) σ h := I.perm (((List.Perm.swap _ _ _).cons _).trans (List.Perm.swap _ _ _))
    cases rem with
    | nil =>
      simp only [evComp_nil] at hev
      obtain ⟨e, rfl⟩ := ret_some hev
      cases e
      refine wpS_bind (wpS.of (it_end (s := { s with heap := h, toks := tk }) hh Iit hS (by rw [List.drop_eq_nil_iff] at hdrop; exact List.getElem?_eq_none hdrop) fun g' h' le I' => ?_))
      exact wpS_pure (fin g' h' tk items na mmC le I' (by simpa using hacc.mono le))
    | cons v rem =>
      have hv : vs[i]? = some v := by
        have := congrArg (fun l => l[0]?) hdrop
        simpa using this
      have hdrop' : vs.drop (i + 1) = rem := by rw [← List.drop_drop, hdrop]; rfl
      refine wpS_bind (wpS.of (it_item (s := { s with heap := h, toks := tk }) Iit hS hv fun u h1 tk1 I1 hu => ?_))
      refine wpS_bind (wpS.of (wpAny_of_eq rfl ?_))
      -- the name
      have I1' : Inv g₀ g ((C, frmP mmC) :: (D, justP (lstObj items na)) :: (it, itP src (i + 1)) :: (c.L, frmP mm) :: fr) σ h1 := I1.perm ((List.Perm.swap _ _ _).trans ((List.Perm.swap _ _ _).cons _))
      have hns := frmP.ns (I1'.fs _ (.head _)).1
      refine wpS_bind (wpS.of (wpAny_assign_Name (wpAny_storeName_local (env := compEnv csc C c.env) hx hns (fun h2 hn2 hs2 => ?_) (by simp [compEnv, hk]))))
      obtain ⟨mm2, hm2, I2⟩ : ∃ mm2 : Str → Option Value, mm2 x = some u ∧ Inv g₀ g ((C, frmP mm2) :: (D, justP (lstObj items na)) :: (it, itP src (i + 1)) :: (c.L, frmP mm) :: fr) σ h2 := ⟨_, by simp, I1'.store (frmP.of hn2) hs2⟩
      clear hn2 I1' Iit I I1
      obtain ⟨envs, hfr, hFr⟩ := F
      have st2 : ∀ σ1 g3 h3, g.le g3 → Inv g₀ g3 ((C, frmP mm2) :: (D, justP (lstObj items na)) :: (it, itP src (i + 1)) :: (c.L, frmP mm) :: fr) σ1 h3 → St g₀ (compCx c csc C x) ((D, justP (lstObj items na)) :: (it, itP src (i + 1)) :: (c.L, frmP mm) :: fr) d [some v] σ1 g3 mm2 h3 := fun σ1 g3 h3 le I3 => by
        refine ⟨I3, fun j y v' hy hv' => ?_, ⟨envs, hfr, hFr.sub fun p hp => .tail _ (.tail _ (.tail _ hp))⟩, hR⟩
        cases j with
        | zero => cases hy; cases hv'; exact ⟨u, hm2, hu.mono le⟩
        | succ j => cases hy
      rw [evComp_cons] at hev
      have cont : ∀ (b : Bool) (σ1 : List TO) g3 h3 tk3, evTO K FT n d [some v] t σ = some (.ok b, σ1) → g.le g3 → Inv g₀ g3 ((C, frmP mm2) :: (D, justP (lstObj items na)) :: (it, itP src (i + 1)) :: (c.L, frmP mm) :: fr) σ1 h3 →
          wpS (model prog w) c.A (if b = true then (do
            let v ← eval elt (compEnv csc C c.env)
            let _ ← call (.builtin "list.append") [.ref D, v]
            pure ()) >>= fun _ => again (.compLoop (.ListComp elt [⟨.Name x px, iter, ifs, 0⟩] csc pos) 0 (.ref it) (.ref D) (compEnv csc C c.env))
            else again (.compLoop (.ListComp elt [⟨.Name x px, iter, ifs, 0⟩] csc pos) 0 (.ref it) (.ref D) (compEnv csc C c.env)))
            (fun fin s' => match fin with | .done f => R (.ok f) s' | .again c' => c'.quiet = true ∧ codeS (model prog w) c.A c' R s') (fun _ _ => False) { s with heap := h3, toks := tk3 } := by
        intro b σ1 g3 h3 tk3 hT le3 I3
        rw [hT] at hev
        cases b with
        | false =>
          dsimp only at hev
          refine wpS_pure ⟨rfl, ?_⟩
          exact ih (by omega) rem (i + 1) σ1 σ' xs acc hev hdrop' hlen g3 h3 tk3 items na mm2 I3 (hS.mono le3) (hacc.mono le3) fun g' h' tk' items' n' mmC' le' I' hacc' => fin g' h' tk' items' n' mmC' (le3.trans le') I' hacc'
        | true =>
          dsimp only at hev
          split at hev
          · rename_i y σ2 hE
            rcases bnd_split hev with ⟨ys, σ3, hys, hr⟩ | ⟨_, _, q⟩
            · obtain ⟨q, rfl⟩ := ret_some hr
              cases q
              refine wpS_bind (wpS_bind (S.el C _ [some v] n (by omega) hE (st2 σ1 g3 h3 le3 I3) ⟨fun a q v' g4 h4 tk4 le4 I4 hv4 => ?_, fun _ q => nomatch q⟩))
              cases q
              have I4' : Inv g₀ g4 ((D, justP (lstObj items na)) :: (C, frmP mm2) :: (it, itP src (i + 1)) :: (c.L, frmP mm) :: fr) σ2 h4 := I4.perm (List.Perm.swap _ _ _)
              obtain ⟨⟨oD, hoD, hq⟩, _⟩ := I4'.fs _ (.head _)
              have hal := hacc.length
              rw [Array.length_toList] at hal
              simp only [List.length_cons] at hlen
              refine wpS_bind (wpS.of (append_at (s := { s with heap := h4, toks := tk4 }) (by show h4.get? D = _; rw [hoD, show oD = _ from hq]) (by rw [sizeLine_eq]; omega) fun h5 n5 hl5 hs5 => wpS_pure ?_))
              have I5 := I4'.turn (P' := justP (lstObj (items.push v') n5)) ⟨_, hl5, rfl⟩ hs5
              refine wpS_pure ⟨rfl, ?_⟩
              refine ih (by omega) rem (i + 1) σ2 σ' ys (acc ++ [y]) hys hdrop' (by simp; omega) g4 h5 tk4 (items.push v') n5 mm2 (I5.perm (List.Perm.swap _ _ _)) (hS.mono (le3.trans le4)) ?_ fun g' h' tk' items' n' mmC' le' I' hacc' => ?_
              · rw [Array.toList_push]
                exact (hacc.mono (le3.trans le4)).append (VRs.cons hv4 VRs.nil)
              · rw [List.append_assoc] at hacc'
                exact fin g' h' tk' items' n' mmC' ((le3.trans le4).trans le') I' hacc'
            · cases q
          · cases hev
      rcases S.te with ⟨rfl, rfl⟩ | ⟨e, t', rfl, rfl, hte⟩
      · refine wpS_bind (tests_noneS ?_)
        cases n with
        | zero => simp [evTO_0] at hev
        | succ n => exact cont true σ g h2 _ (by rw [evTO_none]; rfl) (Gh.le.refl g) I2
      · split at hev <;> try (cases hev)
        all_goals (rename_i σ1 hT; cases n with
        | zero => simp [evTO_0] at hT
        | succ n => 
          have hT' := hT
          rw [evTO_some] at hT'
          refine wpS_bind (tests_oneS (hte C _ [some v] n (by omega) hT' (st2 σ g h2 (Gh.le.refl g) I2) ⟨fun a q b g3 h3 tk3 le3 I3 hb => ?_, fun _ q => nomatch q⟩))
          cases q
          cases hb
          exact cont _ σ1 g3 h3 tk3 hT le3 I3)
end
end Mine
end

section
open PySem PySem.W PySem.Calls PyProof.Rows
set_option maxRecDepth 100000
namespace Mine

section
variable {prog : Program} {w : World} {K : Frag} {FT : Addr → Option Fn} {g₀ : Heap} {c : Cx} {fr : List Fm} {d : Nat} {m : Lo}

theorem wpS_standIf {α : Type} {M : Model} {A : Around} {E : Value → Shared → Prop} {s : Shared} {c : Prop} [Decidable c] {pos : Pos} {k : PUnit → Sem α} {Q : α → Shared → Prop} (h : wpS M A (k ()) Q E s) :
    wpS M A (if c then (standAt pos >>= k) else k ()) Q E s := by
  split
  · exact wpS_bind (wpS_standAt h)
  · exact h
theorem wpS_ite {α : Type} {M : Model} {A : Around} {E : Value → Shared → Prop} {s : Shared} {c : Prop} [Decidable c] {a b : Sem α} {Q : α → Shared → Prop} (h1 : wpS M A a Q E s) (h2 : wpS M A b Q E s) : wpS M A (if c then a else b) Q E s := by
  split
  · exact h1
  · exact h2

theorem comp_start {csc : Scope} {x : Str} {px pos : Pos} {elt iter : Expr} {ifs : List Expr} {it : Addr} {acc : Value} {env : Env} {A : Around} {R : Result → Shared → Prop} {s : Shared}
    (hs : ∀ {Q : Value → Shared → Prop} {E}, Q (.ref it) s → wpAny (model prog w) A (pyIter (.ref it)) Q E s) (h : codeS (model prog w) A (.compLoop (.ListComp elt [⟨.Name x px, iter, ifs, 0⟩] csc pos) 0 (.ref it) acc env) R s) :
    codeS (model prog w) A (.compStart (.ListComp elt [⟨.Name x px, iter, ifs, 0⟩] csc pos) 0 (.ref it) acc env) R s := by
  refine codeS_of_tree rfl ?_
  rw [Around.under_of_weight rfl]
  show wpS _ _ ((compStart (.ListComp elt [⟨.Name x px, iter, ifs, 0⟩] csc pos) 0 (.ref it) acc env).onRaise (fun x => do noteFrame x env; standAt theWindowsPlace)) _ _ s
  refine wpS_onRaise (wpS_mono (Q := fun fin s' => match fin with | .done f => R (.ok f) s' | .again c' => c'.quiet = true ∧ codeS (model prog w) A c' R s') (E := fun _ _ => False) ?_ (fun _ _ z => z) fun _ _ z => z.elim)
  unfold compStart
  show wpS _ _ (ask >>= _) _ _ s
  refine wpS_bind (wpS.of (wpAny_askSetting ?_))
  have fin : wpS (model prog w) A (again (.compLoop (.ListComp elt [⟨.Name x px, iter, ifs, 0⟩] csc pos) 0 (.ref it) acc env)) (fun fin s' => match fin with | .done f => R (.ok f) s' | .again c' => c'.quiet = true ∧ codeS (model prog w) A c' R s') (fun _ _ => False) s := wpS_pure ⟨rfl, h⟩
  split
  · first
      | exact wpS_bind (wpS_pure (wpS_pure (And.intro rfl h)))
      | exact wpS_pure (And.intro rfl h)
  · refine wpS_bind (wpS.of (wpAny_rule ?_))
    show wpS _ _ (standAt iter.pos >>= _) _ _ s
    exact wpS_stand (wpS_bind (wpS.of (hs fin)))

theorem comp_core {csc : Scope} {x : Str} {px pos pos' : Pos} {elt iter : Expr} {ifs : List Expr} {el : IE} {t : Option IE} {N : Nat} {use : Option (Value → Sem Unit)} {xi : List TO → R AV} {α : Type} {F : List AV → List TO → R α} {σ σ' : List TO} {r : Ex α} {g : Gh} {mm : Str → Option Value} {s : Shared}
    {Q : Value → Shared → Prop} {E : Value → Shared → Prop} (X : K.In g₀) (C : CxOk c) (hc : compOk csc x = true) (hfold : ∀ v, foldedSetIterable iter c.env v = pure v) (S : CompSubs prog w K FT g₀ c d csc x elt ifs el t N) (hi : Sub prog w VR g₀ c fr d m (eval iter c.env) xi)
    (hx : bnd (xi σ) (fun o σ => match iterA K σ o with
      | some vs => bnd (evComp K FT N d el t vs σ) fun vs σ => if AV.frees vs && vs.length ≤ 100000 then F vs σ else none
      | none => none) = some (r, σ')) (st : St g₀ c fr d m σ g mm s.heap)
    (ex : ∀ i, r = .exc i → ∀ e g' h' tk, g.le g' → Inv g₀ g' ((c.L, frmP mm) :: fr) σ' h' → g'.loc i = some e → Rsd σ' i → ExTr g' ((c.L, frmP mm) :: fr) h' e .none → E (.ref e) { s with heap := h', toks := tk })
    (fin : ∀ xs σ₁, F xs σ₁ = some (r, σ') → AV.frees xs = true → xs.length ≤ 100000 → ∀ g' h' tk' D items' n' Ca mmC, g.le g' → Inv g₀ g' ((Ca, frmP mmC) :: (D, justP (lstObj items' n')) :: (c.L, frmP mm) :: fr) σ₁ h' → VRs g' xs items'.toList →
      match use with
      | none => ∀ h'', Inv g₀ g' ((D, justP (lstObj items' n')) :: (c.L, frmP mm) :: fr) σ₁ h'' → Q (.ref D) { s with heap := h'', toks := tk' }
      | some u => wpS (model prog w) c.A (u (.ref D)) (fun _ s' => ∃ mm' h'' tk'', s' = { s with heap := h'', toks := tk'' } ∧ Inv g₀ g' ((Ca, frmP mmC) :: (D, justP (lstObj items' n')) :: (c.L, frmP mm') :: fr) σ₁ h'' ∧
          ∀ h3, Inv g₀ g' ((D, justP (lstObj items' n')) :: (c.L, frmP mm') :: fr) σ₁ h3 → Q .none { s with heap := h3, toks := tk'' }) E { s with heap := h', toks := tk' }) :
    wpS (model prog w) c.A (comprehension (.ListComp elt [⟨.Name x px, iter, ifs, 0⟩] csc pos) csc c.env pos' (newList []) false (eval iter c.env) use) Q E s := by
  obtain ⟨hk, hfree, hcell, hnames, hxl⟩ := compOk_parts hc
  unfold comprehension
  rw [closureFor_none hfree]
  rcases bnd_split hx with ⟨o, σ₁, h1, h2⟩ | ⟨i, h1, rfl⟩
  · refine wpS_bind (hi h1 st ⟨fun o' q u g1 h1 tk1 le1 I1 hu => ?_, fun _ q => nomatch q⟩)
    cases q
    refine wpS_stand ?_
    dsimp only [clausesOf]
    refine wpS_bind (wpS.of (wpAny_of_eq (hfold u) ?_))
    split at h2
    · rename_i vs hvs
      rcases bnd_split h2 with ⟨xs, σ₂, hev, hF⟩ | ⟨i, hev, q⟩
      · split at hF <;> try (cases hF)
        rename_i hlz
        simp only [Bool.and_eq_true, decide_eq_true_eq] at hlz
        obtain ⟨hfr, hlen⟩ := hlz
        refine wpS_bind (wpS_holding (wpS.of (it_start (s := { s with heap := h1, toks := tk1 }) X I1 hvs hu fun it src h2 hS I2 => ?_)))
        refine wpS_standIf (wpS_bind (wpS.of (wpAny_newList ?_ (by simp))))
        have I3 := I2.push (h' := h2.push (lstObj #[] 0)) (m := justP (lstObj #[] 0)) (fun b o e => Heap.get?_push_of_some _ e) (get_size h2) I2.size_le ⟨_, Heap.get?_push_size _ rfl, rfl⟩
        refine wpS_bind (wpS_pure (wpS_bind (wpS.of (wpAny_newFunctionEnv hcell (by nofun) (fun h4 hns hsb => ?_) hk))))
        dsimp only at hns hsb ⊢
        have I4 := I3.push (h' := h4) (fun b o e => hsb.extBut b o (Nat.ne_of_lt (Heap.lt_size e)) (Heap.get?_push_of_some _ e)) (get_size _) I3.size_le (frmP.of hns)
        rw [map_eq_self (l := csc.names) (fun x hx => by
          obtain ⟨n, k⟩ := x
          have : (k == NameKind.free) = false := by simpa using hfree _ hx
          simp [this])]
        refine wpS_holding (wpS_bind (wpS_attempt (wpS_holding (wpS_run (h := none) ?_))))
        show codeS (model prog w) c.A _ _ _
        have ihh := C.hh
        have fr4 : ∃ envs, c.A.frames = some envs ∧ FrIn ((c.L, frmP mm) :: fr) envs := st.F
        have hv : ∀ y ∈ (csc.names.filter fun y => (y.2 == .local || y.2 == .cell) && y.1 != (Str.ofString ".0")), y.2 = .local → Env.kindOf (compEnv csc (h2.push (lstObj #[] 0)).objs.size c.env) y.1 = some .local := fun y hy hl => hnames y (List.mem_filter.mp hy).1 hl
        refine codeS_mono (R := fun r s' => ∃ g' h' tk' items' n' mmC', r = .ok .next ∧ s' = { s with heap := h', toks := tk' } ∧ g.le g' ∧ Inv g₀ g' (((h2.push (lstObj #[] 0)).objs.size, frmP mmC') :: (h2.objs.size, justP (lstObj items' n')) :: (c.L, frmP mm) :: fr) σ₂ h' ∧ VRs g' xs items'.toList) ?_ fun r s' hr => ?_
        · have I4it : Inv g₀ g1 ((it, itP src 0) :: ((h2.push (lstObj #[] 0)).objs.size, frmP _) :: (h2.objs.size, justP (lstObj #[] 0)) :: (c.L, frmP mm) :: fr) σ₁ h4 := I4.perm (((List.Perm.swap _ _ _).cons _).trans (List.Perm.swap _ _ _))
          refine comp_start (env := compEnv csc (h2.push (lstObj #[] 0)).objs.size c.env) (fun hq => it_self I4it hq) ?_
          exact comp_loop (s := s) ihh hk hxl S fr4 st.R N (Nat.le_refl _) vs 0 σ₁ σ₂ xs [] hev rfl (by simpa using hlen) g1 h4 _ #[] 0 _ I4 hS VRs.nil fun g' h' tk' items' n' mmC' le' I' hr => ⟨g', h', tk', items', n', mmC', rfl, rfl, le1.trans le', I', hr⟩
        · obtain ⟨g', h', tk', items', n', mmC', rfl, rfl, le', I', hr⟩ := hr
          have hns' := frmP.ns (I'.fs _ (.head _)).1
          have F := fin xs σ₂ hF hfr hlen g' h' tk' _ items' n' _ mmC' le' I' hr
          cases use with
          | none =>
            refine wpS_bind (wpS_holding (wpS.of (wpAny_comp_letGo (cenv := compEnv csc (h2.push (lstObj #[] 0)).objs.size c.env) hk _ _ mmC' (fun y hy => hv y (List.mem_reverse.mp hy)) hns' fun h'' m' hn' hs' => ?_)))
            exact wpS_pure (F h'' (I'.store (m' := frmP m') (frmP.of hn') hs').pop0)
          | some u =>
            refine wpS_bind (wpS.of (wpAny_rule ?_))
            refine wpS_bind (wpS_holding (wpS_q F fun _ s' z => ?_))
            obtain ⟨mm', h'', tk'', rfl, I'', q⟩ := z
            have hns2 := frmP.ns (I''.fs _ (.head _)).1
            refine wpS_bind (wpS.of (wpAny_comp_letGo (cenv := compEnv csc (h2.push (lstObj #[] 0)).objs.size c.env) hk _ _ mmC' (fun y hy => hv y (List.mem_reverse.mp ?_)) hns2 fun h3 m' hn' hs' => ?_))
            · rcases List.mem_append.mp hy with z | z
              · exact List.mem_of_mem_drop z
              · exact List.mem_of_mem_take z
            · exact wpS_pure (q h3 (I''.store (m' := frmP m') (frmP.of hn') hs').pop0)
      · obtain ⟨_, e⟩ := evComp_ok hev
        cases e
    · cases h2
  · exact wpS_bind (hi h1 st ⟨fun _ q => (nomatch q), fun j q => by cases q; exact ex i rfl⟩)
end
end Mine
end

section
open PySem PySem.W PySem.Calls PyProof.Rows
set_option maxRecDepth 100000
namespace Mine

/-- what stood beside is tracked from here on -/
theorem Inv.adopt {g₀ : Heap} {g : Gh} {fr : List Fm} {σ : List TO} {h : Heap} {a : Addr} {P : Obj → Prop} {t : TO} (I : Inv g₀ g ((a, P) :: fr) σ h) (r : TR ⟨g.frz, fun i => if i = σ.length then some a else g.loc i⟩ h a t) :
    g.le ⟨g.frz, fun i => if i = σ.length then some a else g.loc i⟩ ∧ Inv g₀ ⟨g.frz, fun i => if i = σ.length then some a else g.loc i⟩ fr (σ ++ [t]) h := by
  have J := I.pop0
  have hf := I.fs _ (.head _)
  have na : a ∉ fr.map (·.1) := (List.nodup_cons.mp I.nd).1
  have le : g.le ⟨g.frz, fun i => if i = σ.length then some a else g.loc i⟩ := by
    refine ⟨fun _ _ e => e, fun i b l => ?_⟩
    have : i ≠ σ.length := Nat.ne_of_lt (I.lo i b l).1
    simp only [this, if_false]
    exact l
  have nl : ∀ i, g.loc i ≠ some a := fun i l => (I.lo i a l).2.2.1 (.head _)
  refine ⟨le, J.base, J.fz, J.fs, J.nd, fun i u e => ?_, fun i b l => ?_, fun i j b l l' => ?_⟩
  · rw [List.getElem?_append] at e
    split at e
    · obtain ⟨b, l, q⟩ := I.so i u e
      exact ⟨b, le.2 i b l, q.mono le fun _ z => z⟩
    · rename_i hi
      have : i = σ.length := by
        rcases Nat.lt_or_ge (i - σ.length) 1 with z | z
        · omega
        · rw [List.getElem?_eq_none (by simpa using z)] at e; cases e
      subst this
      simp only [Nat.sub_self, List.getElem?_cons_zero, Option.some.injEq] at e
      subst e
      exact ⟨a, by simp, r⟩
  · dsimp only at l
    rw [List.length_append]
    split at l
    · rename_i hi
      cases l
      exact ⟨by subst hi; simp, hf.2.1, na, hf.2.2⟩
    · obtain ⟨x1, x2, x3⟩ := J.lo i b l
      exact ⟨by simp; omega, x2, x3⟩
  · dsimp only at l l'
    split at l <;> split at l'
    · rename_i p q; rw [p, q]
    · cases l; exact (nl j l').elim
    · cases l'; exact (nl i l).elim
    · exact I.inj i j b l l'

theorem cE_fold {K : Frag} {n : Nat} {locs : List Str} {sc : Scope} {e : Expr} {ie : IE} (h : cE K n locs sc e = some ie) : ∀ env v, foldedSetIterable e env v = pure v := by
  cases n with
  | zero => simp [cE] at h
  | succ n => cases e <;> first | exact fun _ _ => rfl | (exfalso; simp [cE] at h)

section
variable {prog : Program} {w : World} {K : Frag} {FT : Addr → Option Fn} {g₀ : Heap} {c : Cx} {fr : List Fm} {d : Nat} {m : Lo}

theorem sub_comp {csc : Scope} {x : Str} {px pos : Pos} {elt iter : Expr} {ifs : List Expr} {el : IE} {t : Option IE} {N : Nat} {xi : List TO → R AV}
    (X : K.In g₀) (C : CxOk c) (hc : compOk csc x = true) (hfold : ∀ v, foldedSetIterable iter c.env v = pure v) (S : CompSubs prog w K FT g₀ c d csc x elt ifs el t N) (hi : Sub prog w VR g₀ c fr d m (eval iter c.env) xi) :
    Sub prog w VR g₀ c fr d m (eval (.ListComp elt [⟨.Name x px, iter, ifs, 0⟩] csc pos) c.env) (fun σ => bnd (xi σ) fun o σ => match iterA K σ o with
      | some vs => bnd (evComp K FT N d el t vs σ) fun vs σ => if AV.frees vs && vs.length ≤ 100000 then mk (.list vs) σ else none
      | none => none) := by
  intro σ r σ' g mm s Q E hx st fin
  rw [eval_ListComp]
  refine comp_core (F := fun vs σ => mk (.list vs) σ) (use := none) X C hc hfold S hi hx st fin.ex fun xs σ₁ hF hfree hlen g' h' tk' D items' n' Ca mmC le I hr h'' I'' => ?_
  simp only [mk, Option.some.injEq, Prod.mk.injEq] at hF
  obtain ⟨rfl, rfl⟩ := hF
  obtain ⟨⟨o, ho, hP⟩, _⟩ := I''.fs _ (.head _)
  obtain ⟨le2, J⟩ := I''.adopt (t := .list xs) ⟨items', n', by rw [ho, show o = _ from hP], VRs.mono (show g'.bare.le _ from ⟨fun _ _ e => e, fun _ _ e => nomatch e⟩) (VRs.bare hfree hr)⟩
  exact fin.ok _ rfl _ _ h'' tk' (le.trans le2) J ⟨D, rfl, by simp⟩
end
end Mine
end

section
open PySem PySem.W PySem.Calls PyProof.Rows
set_option maxRecDepth 100000
namespace Mine

theorem MR.store {g : Gh} {locs : List Str} {m : Lo} {mm : Str → Option Value} {x : Str} {k : Nat} {v : AV} {u : Value} (M : MR g locs m mm) (nd : locs.Nodup) (hk : locs.findIdx? (· == x) = some k) (r : VR g v u) : MR g locs (m.set k (some v)) (fun y => if y = x then some u else mm y) := by
  obtain ⟨h1, h2, _⟩ := List.findIdx?_eq_some_iff_getElem.mp hk
  have h2 := eq_of_beq h2
  intro i y v' hy hv
  rw [List.getElem?_set] at hv
  split at hv
  · rename_i e
    subst e
    split at hv <;> cases hv
    rw [List.getElem?_eq_getElem h1, h2] at hy
    cases hy
    exact ⟨u, by simp, r⟩
  · rename_i e
    obtain ⟨u', hu, q⟩ := M i y v' hy hv
    refine ⟨u', ?_, q⟩
    have : y ≠ x := by
      rintro rfl
      obtain ⟨hi, e2⟩ := List.getElem?_eq_some_iff.mp hy
      have P := List.pairwise_iff_getElem.mp nd
      rcases Nat.lt_trichotomy k i with z | z | z
      · exact P k i h1 hi z (h2.trans e2.symm)
      · exact e z
      · exact P i k hi h1 z (e2.trans h2.symm)
    simp [this, hu]

theorem cE_swaps {K : Frag} {n : Nat} {locs : List Str} {sc : Scope} {e : Expr} {ie : IE} (h : cE K n locs sc e = some ie) (hc : isComp e = false) : ∀ t line env, swapsWith e (some t) line env = pure false := by
  cases n with
  | zero => simp [cE] at h
  | succ n => cases e <;> first | exact fun _ _ _ => rfl | (exfalso; simp [cE] at h; done) | cases hc

section
variable {g₀ : Heap} {c : Cx} {fr : List Fm} {r : Out × Lo × List TO} {g g₁ : Gh} {s : Shared} {Q : Flow → Shared → Prop} {E : Value → Shared → Prop} {h₁ : Heap} {tk₁ : Nat}
theorem FinS.later (x : FinS g₀ c fr r g s Q E) (k : g.le g₁) : FinS g₀ c fr r g₁ { s with heap := h₁, toks := tk₁ } Q E :=
  ⟨fun m' σ' e mm' g' h' tk l I M => x.nxt m' σ' e mm' g' h' tk (k.trans l) I M, fun v m' σ' e mm' u g' h' tk l I q => x.ret v m' σ' e mm' u g' h' tk (k.trans l) I q,
   fun i m' σ' e mm' a g' h' tk l I M q z t => x.ex i m' σ' e mm' a g' h' tk (k.trans l) I M q z t⟩
end

section
variable {prog : Program} {w : World} {K : Frag} {g₀ : Heap} {c : Cx} {fr : List Fm} {d : Nat}

/-- an expression at a statement's start -/
theorem Sub.stm {α β : Type} {rel : Gh → α → β → Prop} {m : Lo} {t : Sem β} {x : List TO → R α} (hs : Sub prog w rel g₀ c fr d m t x) {F : α → List TO → RS} {σ : List TO} {r : Out × Lo × List TO} {g : Gh} {mm : Str → Option Value} {s : Shared}
    {Q : β → Shared → Prop} {Q' : Flow → Shared → Prop} {E : Value → Shared → Prop} (hx : Mine.stm (x σ) m F = some r) (st : St g₀ c fr d m σ g mm s.heap) (fin : FinS g₀ c fr r g s Q' E)
    (k : ∀ a v σ₁ g₁ h₁ tk, F a σ₁ = some r → g.le g₁ → St g₀ c fr d m σ₁ g₁ mm h₁ → rel g₁ a v → FinS g₀ c fr r g₁ { s with heap := h₁, toks := tk } Q' E → Q v { s with heap := h₁, toks := tk }) :
    wpS (model prog w) c.A t Q E s := by
  unfold Mine.stm at hx
  split at hx
  · rename_i a σ₁ e
    refine hs e st ⟨fun a' q v g' h' tk l I z => ?_, fun _ q => nomatch q⟩
    cases q
    exact k a v σ₁ g' h' tk hx l (st.next l I) z (fin.later l)
  · rename_i i σ₁ e
    cases hx
    exact hs e st ⟨fun _ q => (nomatch q), fun j q e g' h' tk l I lo hσ t => by
      cases q
      exact fin.ex i m σ₁ rfl mm e g' h' tk l I (st.M.mono l) lo hσ (.inr (.inl t))⟩
  · cases hx

theorem name_store {σ : List TO} {g : Gh} {m : Lo} {mm : Str → Option Value} {s : Shared} {x : Str} {k : Nat} {v : AV} {u : Value} {Q : Unit → Shared → Prop} {E : Value → Shared → Prop} (C : CxOk c) (hx : c.sc.names.lookup x = some .local) (hk : c.locs.findIdx? (· == x) = some k)
    (st : St g₀ c fr d m σ g mm s.heap) (ru : VR g v u) (q : ∀ h', Inv g₀ g ((c.L, frmP fun y => if y = x then some u else mm y) :: fr) σ h' → MR g c.locs (m.set k (some v)) (fun y => if y = x then some u else mm y) → Q () { s with heap := h', toks := s.toks + 1 }) :
    wpAny (model prog w) c.A (storeName c.env x u) Q E s :=
  wpAny_storeName_local ((kindOf_eq C x).trans hx) (C.loc ▸ st.fr.ns) (fun h' hn hs => q h' (st.I.store (frmP.of (C.loc ▸ hn)) (C.loc ▸ hs)) (st.M.store C.nd hk ru)) (by simp [C.hk])

theorem subS_asg {x : Str} {k : Nat} {e : Expr} {p pos : Pos} {xa : Lo → List TO → R AV} (C : CxOk c) (hx : c.sc.names.lookup x = some .local) (hk : c.locs.findIdx? (· == x) = some k) (hsw : swapsWith e (some (.Name x p)) pos.line c.env = pure false)
    (ha : ∀ m, Sub prog w VR g₀ c fr d m (eval e c.env) (xa m)) :
    SubS prog w g₀ c fr d (exec (.Assign [.Name x p] e pos) c.env) (fun m σ => Mine.stm (xa m σ) m fun v σ => some (.nxt, m.set k (some v), σ)) := by
  intro m σ r g mm s Q E hr st fin
  rw [exec_Assign_arm]
  refine wpS_stand ?_
  show wpS _ _ (swapsWith e (some (.Name x p)) pos.line c.env >>= _) _ _ _
  rw [hsw]
  refine wpS_bind (wpS_pure ?_)
  rw [if_neg (by decide)]
  refine wpS_bind (Sub.stm (ha m) hr st fin fun a u σ₁ g₁ h₁ tk hF le st₁ ru fin₁ => ?_)
  cases hF
  refine wpS_bind (wpS.of (wpAny_of_eq (a := none) rfl ?_))
  refine wpS_bind (wpS.of (wpAny_assign_Name (name_store (s := { s with heap := h₁, toks := tk }) C hx hk st₁ ru fun h' I M => ?_)))
  exact wpS_pure (fin₁.nxt _ _ rfl _ g₁ h' _ (Gh.le.refl _) I M)
end
end Mine
end

section
open PySem PySem.W PySem.Calls PyProof.Rows
set_option maxRecDepth 100000
namespace Mine

section
variable {prog : Program} {w : World} {K : Frag} {FT : Addr → Option Fn} {g₀ : Heap} {c : Cx} {fr : List Fm} {d : Nat}

/-- x = [..]: the stores are exchanged -/
theorem subS_asgC {csc : Scope} {x y : Str} {k : Nat} {px py pos q : Pos} {elt iter : Expr} {ifs : List Expr} {el : IE} {t : Option IE} {N : Nat} {xi : Lo → List TO → R AV}
    (X : K.In g₀) (C : CxOk c) (hy : c.sc.names.lookup y = some .local) (hk : c.locs.findIdx? (· == y) = some k) (hsw : (py.line == q.line && !(csc.names.any fun (n, k) => n == y && (k == .local || k == .cell))) = true)
    (hc : compOk csc x = true) (hfold : ∀ v, foldedSetIterable iter c.env v = pure v) (S : CompSubs prog w K FT g₀ c d csc x elt ifs el t N) (hi : ∀ m, Sub prog w VR g₀ c fr d m (eval iter c.env) (xi m)) :
    SubS prog w g₀ c fr d (exec (.Assign [.Name y py] (.ListComp elt [⟨.Name x px, iter, ifs, 0⟩] csc q) pos) c.env) (fun m σ => stm (bnd (xi m σ) fun o σ => match iterA K σ o with
      | some vs => bnd (evComp K FT N d el t vs σ) fun vs σ => if AV.frees vs && vs.length ≤ 100000 then mk (.list vs) σ else none
      | none => none) m fun v σ => some (.nxt, m.set k (some v), σ)) := by
  intro m σ r g mm s Q E hr st fin
  rw [exec_Assign_arm]
  refine wpS_stand ?_
  have hsw' : swapsWithSole [.Name y py] (.ListComp elt [⟨.Name x px, iter, ifs, 0⟩] csc q) pos.line c.env = pure true := by
    rw [Bool.and_eq_true] at hsw
    have hb : c.env.blockKind = .function := by simp [Env.blockKind, C.hk]
    show pure (c.env.blockKind == .function && c.env.kindOf y == some .local && py.line == q.line && !(csc.names.any fun (n, k) => n == y && (k == .local || k == .cell))) = _
    rw [hb, kindOf_eq C, hy, hsw.1, hsw.2]
    rfl
  rw [hsw']
  refine wpS_bind (wpS_pure ?_)
  rw [if_pos rfl]
  refine wpS_bind ?_
  show wpS _ _ (comprehension (.ListComp elt [⟨.Name x px, iter, ifs, 0⟩] csc q) csc c.env iter.pos (newList []) false (eval iter c.env) (some fun v => assign (.Name y py) c.env v) >>= fun _ => pure ()) _ _ _
  refine wpS_bind ?_
  unfold stm at hr
  dsimp only at hr
  split at hr
  · rename_i v σ₁ e
    refine comp_core (F := fun vs σ => mk (.list vs) σ) (use := some fun v => assign (.Name y py) c.env v) X C hc hfold S (hi m) e st (fun _ q => nomatch q) fun xs σ₂ hF hfree hlen g' h' tk' D items' n' Ca mmC le I hxs => ?_
    simp only [mk, Option.some.injEq, Prod.mk.injEq] at hF
    obtain ⟨e1, rfl⟩ := hF
    cases e1
    cases hr
    have I1 : Inv g₀ g' ((c.L, frmP mm) :: (Ca, frmP mmC) :: (D, justP (lstObj items' n')) :: fr) σ₂ h' := I.perm (((List.Perm.swap _ _ _).cons _).trans (List.Perm.swap _ _ _))
    have hns := frmP.ns (I1.fs _ (.head _)).1
    refine wpS.of (wpAny_assign_Name (wpAny_storeName_local ((kindOf_eq C y).trans hy) (C.loc ▸ hns) (fun h2 hn2 hs2 => ?_) (by simp [C.hk])))
    have I2 := I1.store (m' := frmP fun z => if z = y then some (.ref D) else mm z) (frmP.of (C.loc ▸ hn2)) (C.loc ▸ hs2)
    refine ⟨_, h2, _, rfl, I2.perm ((List.Perm.swap _ _ _).trans ((List.Perm.swap _ _ _).cons _)), fun h3 I3 => ?_⟩
    obtain ⟨⟨o, ho, hP⟩, _⟩ := I3.fs _ (.head _)
    obtain ⟨le2, J⟩ := I3.adopt (t := .list xs) ⟨items', n', by rw [ho, show o = _ from hP], VRs.mono (show g'.bare.le _ from ⟨fun _ _ e => e, fun _ _ e => nomatch e⟩) (VRs.bare hfree hxs)⟩
    exact wpS_pure (wpS_pure (fin.nxt _ _ rfl _ _ h3 _ (le.trans le2) J ((st.M.mono (le.trans le2)).store C.nd hk ⟨D, rfl, by simp⟩)))
  · rename_i i σ₁ e
    cases hr
    refine comp_core (F := fun vs σ => mk (.list vs) σ) (use := some fun v => assign (.Name y py) c.env v) X C hc hfold S (hi m) e st (fun j q e g' h' tk l I lo hσ t => ?_) fun xs σ₂ hF => by simp at hF
    cases q
    exact fin.ex i m σ₁ rfl mm e g' h' tk l I (st.M.mono l) lo hσ (.inr (.inl t))
  · cases hr
end
end Mine
end

section
open PySem PySem.W PySem.Calls PyProof.Rows
set_option maxRecDepth 100000
namespace Mine

section
variable {prog : Program} {w : World} {K : Frag} {FT : Addr → Option Fn} {g₀ : Heap} {c : Cx} {fr : List Fm} {d : Nat}

theorem locIx_some {locs : List Str} {sc : Scope} {x : Str} {k : Nat} (h : locIx locs sc x = some k) : sc.names.lookup x = some .local ∧ locs.findIdx? (· == x) = some k := by
  unfold locIx at h
  split at h
  · rename_i e; exact ⟨e, h⟩
  · cases h

/-- a name with its place -/
noncomputable abbrev Tgt := Str × Nat × Pos

/-- names, one after the other -/
theorem put_all (C : CxOk c) : ∀ {ps : List Tgt} {us : List Value} {vs : List AV} {T : Tgt → Value → Sem Unit} {m m' : Lo} {σ : List TO} {g : Gh} {mm : Str → Option Value} {s : Shared} {Q : Unit → Shared → Prop} {E : Value → Shared → Prop},
    (∀ p ∈ ps, locIx c.locs c.sc p.1 = some p.2.1) → (∀ p ∈ ps, ∀ u s Q, wpAny (model prog w) c.A (storeName c.env p.1 u) Q E s → wpAny (model prog w) c.A (T p u) Q E s) → VRs g vs us → putAll (ps.map (·.2.1)) vs m = some m' → St g₀ c fr d m σ g mm s.heap →
    (∀ mm' h' tk, Inv g₀ g ((c.L, frmP mm') :: fr) σ h' → MR g c.locs m' mm' → Q () { s with heap := h', toks := tk }) → wpAny (model prog w) c.A (assignInOrder (ps.map T) us) Q E s := by
  intro ps
  induction ps with
  | nil =>
    intro us vs T m m' σ g mm s Q E hl hT hr hp st q
    cases vs with
    | nil =>
      rw [show us = [] from hr]
      cases hp
      exact wpAny_pure (q mm s.heap s.toks st.I st.M)
    | cons v vs => cases hp
  | cons p ps ih =>
    intro us vs T m m' σ g mm s Q E hl hT hr hp st q
    cases vs with
    | nil => cases hp
    | cons v vs =>
      obtain ⟨u, us', rfl, ru, rs⟩ := hr
      obtain ⟨h1, h2⟩ := locIx_some (hl p (.head _))
      refine wpAny_bind (wpAny_holding (hT p (.head _) _ _ _ (name_store C h1 h2 st ru fun h' I M => ?_)))
      have st' : St g₀ c fr d (m.set p.2.1 (some v)) σ g (fun y => if y = p.1 then some u else mm y) h' := ⟨I, M, let ⟨envs, a, b⟩ := st.F; ⟨envs, a, b.head (Slt.frm _)⟩, st.R⟩
      exact ih (s := { s with heap := h', toks := s.toks + 1 }) (fun p hp => hl p (.tail _ hp)) (fun p hp => hT p (.tail _ hp)) rs hp st' q
end

/-- what a target's list gives -/
theorem targets_are {locs : List Str} {sc : Scope} : ∀ {ts : List Expr} {ks : List Nat}, cTargets locs sc ts = some ks → ∃ ps : List Tgt, ks = ps.map (·.2.1) ∧ (∀ p ∈ ps, locIx locs sc p.1 = some p.2.1) ∧ ts = ps.map fun p => Expr.Name p.1 p.2.2
  | [], ks, h => by cases h; exact ⟨[], rfl, nofun, rfl⟩
  | t :: ts, ks, h => by
    unfold cTargets at h
    split at h
    · rename_i e; cases e
    · rename_i x q r e
      cases e
      simp only [Option.bind_eq_some_iff, Option.map_eq_some_iff] at h
      obtain ⟨k, hk, ks', h', rfl⟩ := h
      obtain ⟨ps, rfl, h2, rfl⟩ := targets_are h'
      refine ⟨(x, k, q) :: ps, rfl, fun p hp => ?_, rfl⟩
      rcases List.mem_cons.mp hp with rfl | hp
      · exact hk
      · exact h2 p hp
    · cases h

theorem cEs_length {K : Frag} : ∀ {n : Nat} {locs : List Str} {sc : Scope} {es : List Expr} {ies : List IE}, cEs K n locs sc es = some ies → es.any (fun | .Starred .. => true | _ => false) = false
  | 0, _, _, _, _, h => by simp [cEs] at h
  | _ + 1, _, _, [], _, _ => rfl
  | n + 1, locs, sc, e :: es, ies, h => by
    simp only [cEs, Option.bind_eq_some_iff, Option.map_eq_some_iff] at h
    obtain ⟨ie, h1, ies', h2, rfl⟩ := h
    rw [List.any_cons, cEs_length h2, Bool.or_false]
    cases n with
    | zero => simp [cE] at h1
    | succ n => cases e <;> first | rfl | (exfalso; simp [cE] at h1)

theorem swapped_of {sc : Scope} {env : Env} {ts es : List Expr} {ps : List Tgt} {k k' : Nat} {p p' : Pos} (hk : ∀ x, env.kindOf x = sc.names.lookup x) (hb : env.blockKind = .function) (h : swOk sc ts es = true) (hs : es.any (fun | .Starred .. => true | _ => false) = false) (ht : ts = ps.map fun p => Expr.Name p.1 p.2.2) :
    swappedStores [.Tuple ts k p] (.Tuple es k' p') env = pure (some (ps.map (·.1))) ∧ ps.length = es.length := by
  unfold swOk at h
  simp only [Bool.and_eq_true, beq_iff_eq, Bool.not_eq_true'] at h
  obtain ⟨⟨⟨⟨⟨h1, h2⟩, h3⟩, h4⟩, h5⟩, h6⟩ := h
  have e : ∀ line, (ts.filterMap (swName sc line)).length = ts.length → ts.filterMap (swName sc line) = ps.map (·.1) := by
    subst ht
    intro line h3'
    clear h1 h2 h3 h4 h5 h6 hs
    rename _ => h3
    induction ps with
    | nil => rfl
    | cons q ps ih =>
      simp only [List.map_cons, List.filterMap_cons] at h3 ⊢
      split at h3
      · rename_i hf
        have := List.length_filterMap_le (swName sc line) (ps.map fun p => Expr.Name p.1 p.2.2)
        simp only [List.length_cons] at h3
        omega
      · rename_i id hf
        simp only [List.length_cons, Nat.add_right_cancel_iff] at h3
        rw [ih h3]
        simp only [swName] at hf
        split at hf
        · cases hf; rfl
        · cases hf
  have hl : ps.length = es.length := by rw [h2, ht, List.length_map]
  refine ⟨?_, hl⟩
  have hf : (fun e : Expr => match e with
      | .Name id pos => if env.kindOf id == some .local && pos.line == (ts.head?.map (·.pos.line)).getD 0 then some id else none
      | _ => none) = swName sc ((ts.head?.map (·.pos.line)).getD 0) := by
    funext e
    unfold swName
    split <;> simp only [hk]
  have e1 := e _ h3
  show (do
    if !(ts.length == 2 || ts.length == 3) || es.length != ts.length || env.blockKind != .function then return none
    if es.any fun | .Starred .. => true | _ => false then return none
    let names := ts.filterMap fun e : Expr => match e with
      | .Name id pos => if env.kindOf id == some .local && pos.line == (ts.head?.map (·.pos.line)).getD 0 then some id else none
      | _ => none
    if names.length != ts.length || names.eraseDups.length != names.length then return none
    if es.all (foldedForSure 8) then return none
    if es.all (constantsAlone 8) then unsupported "assign.tuple-of-constant-expressions:order-of-the-stores"
    return some names : Sem (Option (List Str))) = _
  rw [hf, hs, hb, h1, h2, h5, h6]
  simp only [e1]
  rw [e1] at h3 h4
  rw [h3, h4]
  simp only [List.length_map] at h3
  simp [h3]
end Mine
end

section
open PySem PySem.W PySem.Calls PyProof.Rows
set_option maxRecDepth 100000
namespace Mine

section
variable {prog : Program} {w : World} {K : Frag} {FT : Addr → Option Fn} {g₀ : Heap} {c : Cx} {fr : List Fm} {d : Nat}

/-- o.at = e -/
theorem subS_asgAt {o e : Expr} {p pos : Pos} {xo xe : Lo → List TO → R AV} (X : K.In g₀) (W : ClsOk K) (hsw : swapsWith e (some (.Attribute o "at" p)) pos.line c.env = pure false)
    (ho : ∀ m, Sub prog w VR g₀ c fr d m (eval o c.env) (xo m)) (he : ∀ m, Sub prog w VR g₀ c fr d m (eval e c.env) (xe m)) :
    SubS prog w g₀ c fr d (exec (.Assign [.Attribute o "at" p] e pos) c.env) (fun m σ => match xe m σ with
      | some (.ok (.int a), σ) => (match xo m σ with
        | some (.ok (.wire i), σ) => (match σ[i]? with
          | some (.wire b _) => some (.nxt, m, σ.set i (.wire b a))
          | _ => none)
        | _ => none)
      | _ => none) := by
  intro m σ r g mm s Q E hr st fin
  rw [plainObj_exec_Assign_Attribute _ _ _ _ _ hsw]
  refine wpS_stand ?_
  dsimp only at hr
  split at hr <;> try (cases hr; done)
  rename_i a σ₁ h1
  refine wpS_bind (he m h1 st ⟨fun _ q u g1 h1 tk1 le1 I1 hu => ?_, fun _ q => nomatch q⟩)
  cases q
  split at hr <;> try (cases hr; done)
  rename_i i σ₂ h2
  refine wpS_bind ?_
  rw [assign_Attribute]
  refine (wpS_bind (wpS_holding (ho m h2 (st.next le1 I1) ⟨fun _ q v g2 h2 tk2 le2 I2 hv => ?_, fun _ q => nomatch q⟩)))
  cases q
  split at hr <;> try (cases hr; done)
  rename_i b a0 h3
  cases hr
  obtain ⟨t0, rfl⟩ := hu
  obtain ⟨x, dx, i1, t1, t1', i2, t2, t2', n, rfl, l, IA⟩ := wire_inst I2 hv h3
  have X2 : K.In h2 := X.keeps fun b o z => I2.fz _ _ (I2.base _ _ z)
  refine wpS_stand (wpS_bind (wpS_holding (wpS.of (store_own (s := { s with heap := h2, toks := tk2 }) (es' := fun _ _ => wireEs i1 t1 (.bytes b.toArray t1') i2 t2 (.int a t0)) (n' := n) X2 W.init.st IA rfl W.init.tk2 rfl (fun _ _ => rfl) (fun _ _ => by simp) fun h4 _ _ tk4 q4 s4 => ?_))))
  refine wpS_release (wpS_pure ?_)
  have I4 := I2.set l s4 (t := .wire b a) ⟨i1, t1, t1', i2, t2, t0, n, q4⟩
  exact fin.nxt _ _ rfl mm g2 h4 _ (le1.trans le2) I4 (st.M.mono (le1.trans le2))

theorem subS_expr {e : Expr} {pos : Pos} {xa : Lo → List TO → R AV} (C : CxOk c) (hsw : swapsWith e none pos.line c.env = pure false) (ha : ∀ m, Sub prog w VR g₀ c fr d m (eval e c.env) (xa m)) :
    SubS prog w g₀ c fr d (exec (.Expr e pos) c.env) (fun m σ => stm (xa m σ) m fun v σ => match v with
      | .none => some (.nxt, m, σ)
      | .bool _ => some (.nxt, m, σ)
      | _ => none) := by
  intro m σ r g mm s Q E hr st fin
  rw [exec_Expr c.env e pos (by simp [interactive, C.hk]) hsw]
  refine wpS_stand (wpS_bind (Sub.stm (ha m) hr st fin fun a u σ₁ g₁ h₁ tk hF le st₁ ru fin₁ => ?_))
  have key : ∀ u : Value, (∀ a, u ≠ .ref a) → wpS (model prog w) c.A (pure Flow.next) Q E { s with heap := h₁, toks := tk } → wpS (model prog w) c.A (dropValue e pos u) Q E { s with heap := h₁, toks := tk } := fun u hu q => by
    rw [dropValue_plain hu]; exact q
  have fin' : r = (.nxt, m, σ₁) → wpS (model prog w) c.A (pure Flow.next) Q E { s with heap := h₁, toks := tk } := fun e => wpS_pure (fin₁.nxt _ _ e mm g₁ h₁ tk (Gh.le.refl _) st₁.I st₁.M)
  split at hF
  · cases hF
    exact key u (by rw [show u = .none from ru]; nofun) (fin' rfl)
  · cases hF
    exact key u (by rw [show u = .bool _ from ru]; nofun) (fin' rfl)
  · cases hF

theorem subS_ret {e : Expr} {pos : Pos} {xa : Lo → List TO → R AV} (ha : ∀ m, Sub prog w VR g₀ c fr d m (eval e c.env) (xa m)) :
    SubS prog w g₀ c fr d (exec (.Return (some e) pos) c.env) (fun m σ => stm (xa m σ) m fun v σ => some (.ret v, m, σ)) := by
  intro m σ r g mm s Q E hr st fin
  show wpS _ _ (standAt pos >>= fun _ => eval e c.env >>= fun v => pure (Flow.ret v)) _ _ _
  refine wpS_stand (wpS_bind (Sub.stm (ha m) hr st fin fun a u σ₁ g₁ h₁ tk hF le st₁ ru fin₁ => ?_))
  cases hF
  exact wpS_pure (fin₁.ret _ _ _ rfl mm u g₁ h₁ tk (Gh.le.refl _) st₁.I ru)

theorem subS_ite {t : Expr} {a b : List Stmt} {pos : Pos} {xt : Lo → List TO → R Bool} {ya yb : Lo → List TO → RS} (ht : ∀ m, Sub prog w BR g₀ c fr d m (isTrue t c.env (eval t c.env)) (xt m)) (ha : SubS prog w g₀ c fr d (execs a c.env) ya) (hb : SubS prog w g₀ c fr d (execs b c.env) yb) :
    SubS prog w g₀ c fr d (exec (.If t a b pos) c.env) (fun m σ => stm (xt m σ) m fun t σ => if t then ya m σ else yb m σ) := by
  intro m σ r g mm s Q E hr st fin
  show wpS _ _ (standAt pos >>= fun _ => isTrue t c.env (eval t c.env) >>= fun b' => if b' = true then execs a c.env else execs b c.env) _ _ _
  refine wpS_stand (wpS_bind (Sub.stm (ht m) hr st fin fun v u σ₁ g₁ h₁ tk hF le st₁ ru fin₁ => ?_))
  cases ru
  cases v
  · exact hb hF st₁ fin₁
  · exact ha hF st₁ fin₁

theorem subS_nil : SubS prog w g₀ c fr d (execs [] c.env) (fun m σ => some (.nxt, m, σ)) := by
  intro m σ r g mm s Q E hr st fin
  cases hr
  exact wpS_pure (fin.nxt _ _ rfl mm g s.heap s.toks (Gh.le.refl _) st.I st.M)

theorem subS_cons {a : Stmt} {l : List Stmt} {ya yl : Lo → List TO → RS} (ha : SubS prog w g₀ c fr d (exec a c.env) ya) (hl : SubS prog w g₀ c fr d (execs l c.env) yl) :
    SubS prog w g₀ c fr d (execs (a :: l) c.env) (fun m σ => match ya m σ with
      | some (.nxt, m, σ) => yl m σ
      | x => x) := by
  intro m σ r g mm s Q E hr st fin
  show wpS _ _ (exec a c.env >>= fun f => match f with | .next => execs l c.env | f => pure f) _ _ _
  dsimp only at hr
  split at hr
  · rename_i m₁ σ₁ e
    refine wpS_bind (ha e st ⟨fun m' σ' q mm' g' h' tk le I M => ?_, fun _ _ _ q => (nomatch q), fun _ _ _ q => nomatch q⟩)
    cases q
    exact hl hr ⟨I, M, let ⟨envs, a, b⟩ := st.F; ⟨envs, a, b.head (Slt.frm _)⟩, st.R⟩ (fin.later le)
  · rename_i x hne
    refine wpS_bind (ha hr st ⟨fun m' σ' q => ?_, fun v m' σ' q mm' u g' h' tk le I ru => ?_, fin.ex⟩)
    · subst q; exact (hne _ _ hr).elim
    · exact wpS_pure (fin.ret v m' σ' q mm' u g' h' tk le I ru)
end
end Mine
end

section
open PySem PySem.W PySem.Calls PyProof.Rows
set_option maxRecDepth 100000
namespace Mine

theorem VRs.reverse {g : Gh} : ∀ {as : List AV} {us : List Value}, VRs g as us → VRs g as.reverse us.reverse
  | [], us, h => by rw [show us = [] from h]; exact VRs.nil
  | a :: as, us, ⟨v, vs, e, h, r⟩ => by
    subst e
    rw [List.reverse_cons, List.reverse_cons]
    exact (VRs.reverse r).append (VRs.cons h VRs.nil)

theorem putAll_length : ∀ {ks : List Nat} {vs : List AV} {m m' : Lo}, putAll ks vs m = some m' → ks.length = vs.length
  | [], [], _, _, _ => rfl
  | [], _ :: _, _, _, h => nomatch h
  | _ :: _, [], _, _, h => nomatch h
  | _ :: ks, _ :: vs, _, _, h => congrArg Nat.succ (putAll_length (ks := ks) (vs := vs) h)

section
variable {prog : Program} {w : World} {K : Frag} {FT : Addr → Option Fn} {g₀ : Heap} {c : Cx} {fr : List Fm} {d : Nat}

theorem subS_asgT {ts es : List Expr} {ks : List Nat} {k k' : Nat} {p p' pos : Pos} {xs : Lo → List TO → R (List AV)} (C : CxOk c) (hw : swOk c.sc ts es = true) (hst : es.any (fun | .Starred .. => true | _ => false) = false) (ht : cTargets c.locs c.sc ts = some ks) (hlen : es.length ≤ 100)
    (hs : ∀ m, Sub prog w VRs g₀ c fr d m (spliced (backTo p' (starEach es c.env))) (xs m)) :
    SubS prog w g₀ c fr d (exec (.Assign [.Tuple ts k p] (.Tuple es k' p') pos) c.env) (fun m σ => stm (xs m σ) m fun vs σ => match putAll ks.reverse vs.reverse m with
      | some m => some (.nxt, m, σ)
      | none => none) := by
  intro m σ r g mm s Q E hr st fin
  obtain ⟨ps, rfl, hl, hts⟩ := targets_are ht
  have hb : c.env.blockKind = .function := by simp [Env.blockKind, C.hk]
  obtain ⟨hsw, hpl⟩ := swapped_of (k := k) (k' := k') (p := p) (p' := p') (kindOf_eq C) hb hw hst hts
  rw [exec_Assign_arm]
  refine wpS_stand ?_
  refine wpS_bind (wpS.of (wpAny_of_eq (a := false) rfl ?_))
  rw [if_neg (by decide)]
  refine wpS_bind ?_
  rw [arm_eval_Tuple]
  refine wpS_stand (wpS_bind (Sub.stm (hs m) hr st fin fun vs us σ₁ g₁ h₁ tk hF le st₁ ru fin₁ => ?_))
  have hul : us.length = vs.length := ru.length
  split at hF
  · rename_i m' hp
    cases hF
    have hpv : ps.length = vs.length := by simpa using putAll_length hp
    refine wpS.of (wpAny_newTuple ?_ (by rw [sizeLine_eq, hul, ← hpv, hpl]; omega))
    have kp : ∀ b o', h₁.get? b = some o' → (h₁.push (tupObj us.toArray 0)).get? b = some o' := fun b o e => Heap.get?_push_of_some _ e
    rw [hsw]
    refine wpS_bind (wpS_pure ?_)
    unfold assignStores
    dsimp only
    refine wpS_bind (wpS.of (wpAny_rule ?_))
    have hn : (ps.map (·.1)).length = us.toArray.size := by rw [List.length_map, List.size_toArray, hul, hpv]
    rw [hn]
    refine wpS_bind (wpS.of (unpackItems_tuple (s := { s with heap := h₁.push (tupObj us.toArray 0), toks := tk }) C.hh (isTup_of (Heap.get?_push_size _ rfl)) fun h2 he2 => ?_))
    have kp2 : ∀ b o', h₁.get? b = some o' → h2.get? b = some o' := fun b o e => he2 b o (Nat.ne_of_lt (Heap.lt_size (kp _ _ e))) (kp _ _ e)
    have st2 := st₁.next (st₁.I.grown_le kp2) (st₁.I.grow kp2)
    refine wpS_bind (wpS.of ?_)
    have e1 : ((ps.map (·.1)).reverse.map fun n => bindName c.env n) = ps.reverse.map fun q => bindName c.env q.1 := by
      rw [← List.map_reverse, List.map_map]; rfl
    rw [e1]
    have e2 : (us.toArray.toList.reverse) = us.reverse := by simp
    rw [e2]
    refine put_all (T := fun q => bindName c.env q.1) (s := { s with heap := h2, toks := tk }) (m := m) (m' := m') C (fun q hq => hl q (List.mem_reverse.mp hq)) (fun q _ u s Q h => wpAny_bindName h) ((ru.mono (st₁.I.grown_le kp2)).reverse) (by rw [← List.map_reverse] at hp; exact hp) st2 fun mm' h' tk' I M => ?_
    exact wpS_pure (fin₁.nxt _ _ rfl mm' _ h' tk' (st₁.I.grown_le kp2) I M)
  · cases hF

/-- a while -/
theorem subS_while {t : Expr} {b : List Stmt} {pos : Pos} {it : IE} {ib : List IS} {N : Nat} (ht : ∀ k < N, ∀ m, Sub prog w BR g₀ c fr d m (isTrue t c.env (eval t c.env)) (fun σ => evT K FT k d m it σ)) (hb : ∀ k < N, SubS prog w g₀ c fr d (execs b c.env) (fun m σ => evSs K FT k d ib m σ)) :
    SubS prog w g₀ c fr d (exec (.While t b [] pos) c.env) (fun m σ => evS K FT N d (.whil it ib) m σ) := by
  intro m σ r g mm s Q E hr st fin
  show wpS _ _ (standAt pos >>= fun _ => runOwn (.whileLoop t b [] c.env) c.env) _ _ _
  refine wpS_stand (wpS_runOwn (h := none) ?_)
  show codeS (model prog w) c.A _ _ _
  have key : ∀ n ≤ N, ∀ m σ r g mm h tk, evS K FT n d (.whil it ib) m σ = some r → St g₀ c fr d m σ g mm h → FinS g₀ c fr r g { s with heap := h, toks := tk } Q E →
      codeS (model prog w) c.A (.whileLoop t b [] c.env) (fun r s' => match r with | .ok f => Q f s' | .error e => cameBackBy (model prog w) c.A c.env E e s') { s with heap := h, toks := tk } := by
    intro n
    induction n with
    | zero => intro _ m σ r g mm h tk hx; simp [evS_0] at hx
    | succ n ih =>
      intro hn m σ r g mm h tk hx st fin
      refine codeS_of_tree rfl ?_
      rw [Around.under_of_weight rfl]
      refine wpS_onRaise (wpS_mono (Q := fun fin s' => match fin with | .done f => Q f s' | .again c' => c'.quiet = true ∧ codeS (model prog w) c.A c' (fun r s' => match r with | .ok f => Q f s' | .error e => cameBackBy (model prog w) c.A c.env E e s') s') (E := fun _ _ => False) ?_ (fun fin _ z => by cases fin <;> exact z) fun _ _ z => z.elim)
      show wpS _ _ (isTrue t c.env (eval t c.env) >>= fun b' => if b' = true then (execs b c.env >>= fun f => match f with
        | .next => again (.whileLoop t b [] c.env)
        | .cont => again (.whileLoop t b [] c.env)
        | .brk => pure (.done .next)
        | .ret v => pure (.done (.ret v))) else (execs [] c.env >>= fun f => pure (.done f))) _ _ _
      rw [evS_whil] at hx
      split at hx <;> try (cases hx; done)
      · rename_i σ₁ hT
        refine wpS_bind (ht n (by omega) m hT st ⟨fun _ q v g1 h1 tk1 le1 I1 hv => ?_, fun _ q => nomatch q⟩)
        cases q
        cases hv
        rw [if_pos rfl]
        split at hx <;> try (cases hx; done)
        rename_i m₁ σ₂ hB
        refine wpS_bind (hb n (by omega) hB (st.next le1 I1) ⟨fun m' σ' q mm' g' h' tk' le I M => ?_, fun _ _ _ q => (nomatch q), fun _ _ _ q => nomatch q⟩)
        cases q
        refine wpS_pure ⟨rfl, ?_⟩
        exact ih (by omega) m₁ σ₂ r g' mm' h' tk' hx ⟨I, M, let ⟨envs, a, b⟩ := st.F; ⟨envs, a, b.head (Slt.frm _)⟩, st.R⟩ (fin.later (le1.trans le))
      · rename_i σ₁ hT
        cases hx
        refine wpS_bind (ht n (by omega) m hT st ⟨fun _ q v g1 h1 tk1 le1 I1 hv => ?_, fun _ q => nomatch q⟩)
        cases q
        cases hv
        rw [if_neg (by decide)]
        exact wpS_bind (wpS_pure (wpS_pure (fin.nxt _ _ rfl mm g1 h1 tk1 le1 I1 (st.M.mono le1))))
  exact key N (Nat.le_refl _) m σ r g mm s.heap s.toks hr st fin
end
end Mine
end

section
open PySem PySem.W PySem.Calls PyProof.Rows
set_option maxRecDepth 100000
namespace Mine

section
variable {M : Model} {A : Around} {E : Value → Shared → Prop} {s : Shared} {g₀ : Heap} {g : Gh} {fr : List Fm} {σ : List TO}

/-- an exception leaves an activation of its own -/
theorem came_ok {env : Env} {outer : List Env} {L e i : Addr} (hfr : A.frames = some (env :: outer)) (hf : env.frame = some L) (F : FrIn fr (env :: outer)) (I : Inv g₀ g fr σ s.heap) (l : g.loc i = some e) (hσ : Rsd σ i)
    (hx : ExTr g fr s.heap e (rawInt L)) (q : ∀ h', Inv g₀ g fr σ h' → ExTr g fr h' e (rawInt L) → E (.ref e) { s with heap := h' }) : cameBackBy M A env E (.ref e) s := by
  unfold cameBackBy
  obtain ⟨oe, vs, T, oT, ts, he, hd, hz, h1, r⟩ := id hx
  refine wpAny_bind (wpAny_field he hd h1 ?_)
  rw [if_neg (by simp), hf]
  exact flight_ok (to := some L) F I l hσ hx q
theorem noted_ok {env : Env} {outer : List Env} {L e i : Addr} {E' : Value → Shared → Prop} (hfr : A.frames = some (env :: outer)) (hf : env.frame = some L) (F : FrIn fr (env :: outer)) (I : Inv g₀ g fr σ s.heap) (l : g.loc i = some e) (hσ : Rsd σ i)
    (hx : ExSt g fr L s.heap e) (q : ∀ h', Inv g₀ g fr σ h' → ExTr g fr h' e (rawInt L) → E (.ref e) { s with heap := h' }) : wpAny M A (do noteFrame (.ref e) env; theTreesLotGoes (.ref e)) (fun _ s' => cameBackBy M A env E (.ref e) s') E' s :=
  wpAny_bind (note_ok hfr hf F I l hσ hx fun h' I' t => wpAny_theTreesLotGoes (came_ok (s := { s with heap := h' }) hfr hf F I' l hσ t q))
end

theorem ExTr.le {g : Gh} {fr fr' : List Fm} {h : Heap} {e : Addr} {fl : Value} (x : ExTr g fr h e fl) (k : ∀ a, a ∈ fr'.map (·.1) → a ∈ fr.map (·.1)) : ExTr g fr' h e fl := by
  obtain ⟨oe, vs, T, oT, ts, h1, h2, h3, h4, h5, h6, r⟩ := x
  exact ⟨oe, vs, T, oT, ts, h1, h2, h3, h4, h5, fun m => h6 (m.imp (k T) id), r⟩
theorem ExSt.le {g : Gh} {fr fr' : List Fm} {L e : Addr} {h : Heap} (x : ExSt g fr L h e) (k : ∀ a, a ∈ fr'.map (·.1) → a ∈ fr.map (·.1)) : ExSt g fr' L h e := x.imp id (Or.imp (·.le k) (·.le k))

section
variable {prog : Program} {w : World} {K : Frag} {FT : Addr → Option Fn} {g₀ : Heap} {c : Cx} {fr : List Fm} {d : Nat}

theorem each_names {env : Env} : ∀ ps : List Tgt, assignEach (ps.map fun p => Expr.Name p.1 p.2.2) env = ps.map fun p => (false, assign (.Name p.1 p.2.2) env)
  | [] => rfl
  | p :: ps => by rw [List.map_cons, List.map_cons, ← each_names ps]; rfl

/-- a loop's target -/
inductive TgtOk (c : Cx) : Expr → List Nat → Prop where
  | name {x : Str} {k : Nat} {p : Pos} : locIx c.locs c.sc x = some k → TgtOk c (.Name x p) [k]
  | tup {ts : List Expr} {ks : List Nat} {k : Nat} {p : Pos} : cTargets c.locs c.sc ts = some ks → ks.length ≠ 1 → TgtOk c (.Tuple ts k p) ks

theorem assign_tgt {t : Expr} {ks : List Nat} {v : AV} {u : Value} {m m' : Lo} {σ : List TO} {g : Gh} {mm : Str → Option Value} {s : Shared} {Q : Unit → Shared → Prop} {E : Value → Shared → Prop} (X : K.In g₀) (C : CxOk c) (T : TgtOk c t ks) (hp : putT K ks v m = some m') (st : St g₀ c fr d m σ g mm s.heap) (ru : VR g v u)
    (q : ∀ mm' g' h' tk, g.le g' → Inv g₀ g' ((c.L, frmP mm') :: fr) σ h' → MR g' c.locs m' mm' → Q () { s with heap := h', toks := tk }) : wpAny (model prog w) c.A (assign t c.env u) Q E s := by
  cases T with
  | name h =>
    obtain ⟨h1, h2⟩ := locIx_some h
    cases hp
    exact wpAny_assign_Name (name_store C h1 h2 st ru fun h' I M => q _ g h' _ (Gh.le.refl g) I M)
  | @tup ts ks k p h hne =>
    obtain ⟨ps, rfl, hl, rfl⟩ := targets_are h
    have hp : (tupItems K v).bind (fun us => putAll (ps.map (·.2.1)) us m) = some m' := by
      unfold putT at hp
      split at hp
      · rename_i e; exact absurd (by rw [e]; rfl) hne
      · exact hp
    simp only [Option.bind_eq_some_iff] at hp
    obtain ⟨us, hu, hp⟩ := hp
    obtain ⟨x, items, n, rfl, f, z⟩ := tup_at X st.I ru hu
    have hz : items.size = us.length := by rw [← Array.length_toList]; exact z.length
    have hpl := putAll_length hp
    rw [arm_assign_Tuple]
    refine wpAny_bind (wpAny_standAt ?_)
    rw [each_names]
    refine wpAny_unpack_tuple C.hh ⟨_, st.I.fz _ _ f, rfl, n, rfl⟩ (by rw [List.length_map, hz, ← hpl, List.length_map]) (by simp) fun h2 he2 => ?_
    rw [List.map_map]
    have kp2 : ∀ b o', s.heap.get? b = some o' → h2.get? b = some o' := fun b o e => he2 b o (Nat.ne_of_lt (Heap.lt_size e)) e
    exact put_all (T := fun p => assign (.Name p.1 p.2.2) c.env) (s := { s with heap := h2 }) C hl (fun p _ u s Q h => wpAny_assign_Name h) (z.mono (st.I.grown_le kp2)) hp (st.next (st.I.grown_le kp2) (st.I.grow kp2)) fun mm' h' tk I M => q mm' _ h' tk (st.I.grown_le kp2) I M

theorem owned_ok {g : Gh} {fr : List Fm} {σ : List TO} {A : Around} {s : Shared} {E : Value → Shared → Prop} {it : Addr} {src : Src} {i : Nat} {t : Expr} {u : Value} {Q : Unit → Shared → Prop} (I : Inv g₀ g ((it, itP src i) :: fr) σ s.heap) (q : Q () s) : wpAny (model prog w) A (letOwnedTupleGo t (.ref it) u) Q E s := by
  obtain ⟨⟨o, ho, hP⟩, _⟩ := I.fs _ (.head _)
  have key : wpAny (model prog w) A (do
      let (.ref r, .ref a) := (Value.ref it, u) | return
      let o ← load r
      match o.cls, o.data with
      | .type n, .fields vs =>
        if ["enumerate", "zip", "dict_itemiterator", "dict_reverseitemiterator", "odict_iterator", "itertools.zip_longest", "itertools.pairwise"].contains n && vs[0]? == some (rawInt a) then
          rule "for.unpacks-the-owned-tuple"
          updateField r 0 .none
      | _, _ => pure ()) Q E s := by
    cases u with
    | ref a =>
      refine wpAny_bind (wpAny_load ho ?_)
      obtain ⟨oc, od, odt, osl⟩ := o
      cases src with
      | str x t => obtain ⟨h1, h2⟩ := hP; dsimp only at h1 h2; subst h1 h2; exact wpAny_pure q
      | bytes x t => obtain ⟨h1, h2⟩ := hP; dsimp only at h1 h2; subst h1 h2; exact wpAny_pure q
      | tup x t => obtain ⟨h1, h2⟩ := hP; dsimp only at h1 h2; subst h1 h2; exact wpAny_pure q
      | lst x t => obtain ⟨h1, h2⟩ := hP; dsimp only at h1 h2; subst h1 h2; exact wpAny_pure q
      | range n => cases (show _ = _ from hP); exact wpAny_pure q
    | _ => exact wpAny_pure q
  unfold letOwnedTupleGo
  split
  · exact key
  · exact key
  · exact wpAny_pure q

theorem for_loop {t : Expr} {b : List Stmt} {ks : List Nat} {ib : List IS} {N : Nat} {it : Addr} {src : Src} {vs : List AV} {outer : List Env} {mm₀ : Str → Option Value} {s : Shared} {Q : Flow → Shared → Prop} {E : Value → Shared → Prop} (X : K.In g₀) (C : CxOk c) (T : TgtOk c t ks) (hfr : c.A.frames = some (c.env :: outer))
    (hFr : FrIn ((c.L, frmP mm₀) :: fr) (c.env :: outer)) (hR : Room c.A d) (hb : ∀ k < N, ∀ fr', SubS prog w g₀ c fr' d (execs b c.env) (fun m σ => evSs K FT k d ib m σ)) :
    ∀ n ≤ N, ∀ rem i m σ r g mm h tk, evFor K FT n d ks rem ib m σ = some r → vs.drop i = rem → Inv g₀ g ((it, itP src i) :: (c.L, frmP mm) :: fr) σ h → MR g c.locs m mm → SrcOk g vs src → FinS g₀ c fr r g { s with heap := h, toks := tk } Q E →
      codeS (model prog w) c.A (.forLoop t (.ref it) b [] c.env) (fun r s' => match r with | .ok f => Q f s' | .error e => cameBackBy (model prog w) c.A c.env E e s') { s with heap := h, toks := tk } := by
  intro n
  induction n with
  | zero => intro _ rem i m σ r g mm h tk hx; simp [evFor_0] at hx
  | succ n ih =>
    intro hn rem i m σ r g mm h tk hx hdrop I M hS fin
    refine codeS_of_tree rfl ?_
    rw [Around.under_of_weight rfl]
    show wpS _ _ ((forTurn t (.ref it) b [] c.env).onRaise fun x => do noteFrame x c.env; theTreesLotGoes x) _ _ _
    refine wpS_onRaise ?_
    unfold forTurn
    refine wpS_stand ?_
    cases rem with
    | nil =>
      simp only [evFor_nil] at hx
      cases hx
      refine wpS_bind (wpS_onRaise (wpS.of (it_end (s := { s with heap := h, toks := tk }) C.hh I hS (by rw [List.drop_eq_nil_iff] at hdrop; exact List.getElem?_eq_none hdrop) fun g' h' le I' => ?_)))
      refine wpS_pure ⟨rfl, codeS_of_tree rfl ?_⟩
      show wpS _ _ ((execs [] c.env).onRaise (fun x => do noteFrame x c.env; theTreesLotGoes x) >>= fun f => pure (PySem.Fin.done f)) _ _ _
      exact wpS_bind (wpS_onRaise (wpS_pure (wpS_pure (fin.nxt _ _ rfl mm g' h' tk le I' (M.mono le)))))
    | cons v rem =>
      have hv : vs[i]? = some v := by
        have := congrArg (fun l => l[0]?) hdrop
        simpa using this
      have hdrop' : vs.drop (i + 1) = rem := by rw [← List.drop_drop, hdrop]; rfl
      rw [evFor_cons] at hx
      split at hx <;> try (cases hx; done)
      rename_i m₁ hp
      refine wpS_bind (wpS_onRaise (wpS.of (it_item (s := { s with heap := h, toks := tk }) I hS hv fun u h1 tk1 I1 hu => ?_)))
      refine wpS_bind (wpS.of (owned_ok (s := { s with heap := h1, toks := tk1 }) I1 ?_))
      have F1 : ∀ mm', FrIn ((c.L, frmP mm') :: (it, itP src (i + 1)) :: fr) (c.env :: outer) := fun mm' => (hFr.head (Slt.frm mm')).sub fun p hp => by
        rcases List.mem_cons.mp hp with rfl | hp
        · exact .head _
        · exact .tail _ (.tail _ hp)
      have st1 : St g₀ c ((it, itP src (i + 1)) :: fr) d m σ g mm h1 := ⟨I1.perm (List.Perm.swap _ _ _), M, ⟨_, hfr, F1 mm⟩, hR⟩
      refine wpS_bind (wpS.of (assign_tgt (s := { s with heap := h1, toks := tk1 }) X C T hp st1 hu fun mm2 g2 h2 tk2 le2 I2 M2 => ?_))
      have st2 : St g₀ c ((it, itP src (i + 1)) :: fr) d m₁ σ g2 mm2 h2 := ⟨I2, M2, ⟨_, hfr, F1 mm2⟩, hR⟩
      have popd : ∀ {g'' h'' σ'' mm''}, Inv g₀ g'' ((c.L, frmP mm'') :: (it, itP src (i + 1)) :: fr) σ'' h'' → Inv g₀ g'' ((c.L, frmP mm'') :: fr) σ'' h'' := fun I => (I.perm (List.Perm.swap _ _ _)).pop0
      split at hx <;> try (cases hx; done)
      · rename_i m₂ σ₂ hB
        refine wpS_bind (hb n (by omega) _ hB st2 ⟨fun m' σ' q mm' g' h' tk' le I M => ?_, fun _ _ _ q => (nomatch q), fun _ _ _ q => nomatch q⟩)
        cases q
        refine wpS_pure ⟨rfl, ?_⟩
        exact ih (by omega) rem (i + 1) m₂ σ₂ r g' mm' h' tk' hx hdrop' (I.perm (List.Perm.swap _ _ _)) M ((hS.mono le2).mono le) (fin.later (le2.trans le))
      · rename_i j m₂ σ₂ hB
        cases hx
        refine wpS_bind (hb n (by omega) _ hB st2 ⟨fun _ _ q => (nomatch q), fun _ _ _ q => (nomatch q), fun j' m' σ' q mm' e g' h' tk' le I M l hσ hE => ?_⟩)
        cases q
        refine wpS.of (noted_ok (s := { s with heap := h', toks := tk' }) hfr C.frame (F1 mm') I l hσ hE fun h'' I'' t => ?_)
        exact fin.ex j m₂ σ₂ rfl mm' e g' h'' tk' (le2.trans le) (popd I'') M l hσ (.inr (.inr (t.le fun a ha => by
          simp only [List.map_cons, List.mem_cons] at ha ⊢
          exact ha.imp id .inr)))

theorem subS_for {t iter : Expr} {b : List Stmt} {pos : Pos} {ks : List Nat} {ib : List IS} {N : Nat} {xi : Lo → List TO → R AV} (X : K.In g₀) (C : CxOk c) (T : TgtOk c t ks) (hfr : ∃ outer, c.A.frames = some (c.env :: outer)) (hfold : ∀ v, foldedSetIterable iter c.env v = pure v)
    (hi : ∀ m, Sub prog w VR g₀ c fr d m (eval iter c.env) (xi m)) (hb : ∀ k < N, ∀ fr', SubS prog w g₀ c fr' d (execs b c.env) (fun m σ => evSs K FT k d ib m σ)) :
    SubS prog w g₀ c fr d (exec (.For t iter b [] pos) c.env) (fun m σ => match xi m σ with
      | some (.ok o, σ) => (match iterA K σ o with
        | some vs => evFor K FT N d ks vs ib m σ
        | none => none)
      | _ => none) := by
  intro m σ r g mm s Q E hr st fin
  show wpS _ _ (standAt pos >>= fun _ => eval iter c.env >>= fun x => foldedSetIterable iter c.env x >>= fun x => standAt iter.pos >>= fun _ => holding [x] (pyIter x) >>= fun it => runOwn (.forLoop t it b [] c.env) c.env) _ _ _
  dsimp only at hr
  split at hr <;> try (cases hr; done)
  rename_i o σ₁ h1
  refine wpS_stand (wpS_bind (hi m h1 st ⟨fun _ q u g1 h1 tk1 le1 I1 hu => ?_, fun _ q => nomatch q⟩))
  cases q
  rw [hfold]
  split at hr <;> try (cases hr; done)
  rename_i vs hvs
  refine wpS_bind (wpS_pure (wpS_stand (wpS_bind (wpS_holding (wpS.of (it_start (s := { s with heap := h1, toks := tk1 }) X I1 hvs hu fun it src h2 hS I2 => ?_))))))
  refine wpS_runOwn (h := none) ?_
  show codeS (model prog w) c.A _ _ _
  obtain ⟨outer, hfr⟩ := hfr
  obtain ⟨envs, hfr', hFr⟩ := st.F
  rw [hfr] at hfr'
  cases hfr'
  exact for_loop (s := s) X C T hfr hFr st.R hb N (Nat.le_refl _) vs 0 m σ₁ r g1 mm h2 tk1 hr rfl I2 (st.M.mono le1) hS (fin.later le1)

theorem subS_forRange {x r : Str} {k : Nat} {px pr pos cpos : Pos} {hi : Expr} {b : List Stmt} {ib : List IS} {N : Nat} {xi : Lo → List TO → R AV} {p : Program} {loose : List Str} {mean : ExcName → Option Value} {mg mb : Str → Option Value}
    (O : TopOk K p loose mean mg mb g₀) (C : CxOk c) (hx : locIx c.locs c.sc x = some k) (hr : c.sc.names.lookup r = some .globalImplicit) (hd : r ≠ Str.ofString "__debug__") (hv : globV K r = some (.type "range")) (hhi : ∀ env, starEach [hi] env = [(false, eval hi env)])
    (hfr : ∃ outer, c.A.frames = some (c.env :: outer)) (hh : ∀ m, Sub prog w VR g₀ c fr d m (eval hi c.env) (xi m)) (hb : ∀ k < N, ∀ fr', SubS prog w g₀ c fr' d (execs b c.env) (fun m σ => evSs K FT k d ib m σ)) :
    SubS prog w g₀ c fr d (exec (.For (.Name x px) (.Call (.Name r pr) [hi] [] cpos) b [] pos) c.env) (fun m σ => match xi m σ with
      | some (.ok (.int h), σ) => if 0 ≤ h ∧ h ≤ 100000 then evFor K FT N d [k] ((List.range h.toNat).map fun i => AV.int (Int.ofNat i)) ib m σ else none
      | _ => none) := by
  intro m σ r' g mm s Q E hr' st fin
  show wpS _ _ (standAt pos >>= fun _ => eval (.Call (.Name r pr) [hi] [] cpos) c.env >>= fun y => foldedSetIterable (.Call (.Name r pr) [hi] [] cpos) c.env y >>= fun y => standAt cpos >>= fun _ => holding [y] (pyIter y) >>= fun it => runOwn (.forLoop (.Name x px) it b [] c.env) c.env) _ _ _
  dsimp only at hr'
  split at hr' <;> try (cases hr'; done)
  rename_i h σ₁ h1
  split at hr' <;> try (cases hr'; done)
  rename_i hb0
  refine wpS_stand (wpS_bind ?_)
  show wpS _ _ (eval (.Name r pr) c.env >>= fun f => callWith cpos f [] (backTo cpos (starEach [hi] c.env)) []) _ _ _
  refine wpS_bind (wpS.of (name_global O C st hr hd hv ?_))
  refine callWithS (by rw [hhi]; rfl) ?_
  rw [hhi]
  show wpS _ _ (eval hi c.env >>= fun v => (pure [v] : Sem (List Value)) >>= fun here => holding here (spliced []) >>= fun r => pure (here ++ r)) _ _ _
  refine wpS_bind (hh m h1 st ⟨fun _ q u g1 h1 tk1 le1 I1 hu => ?_, fun _ q => nomatch q⟩)
  cases q
  refine wpS_bind (wpS_pure (wpS_bind (wpS_holding (wpS_pure (wpS_pure ?_)))))
  obtain ⟨t0, rfl⟩ := hu
  refine ⟨keeper_plain (by intro a; nofun), wpS.of (call_range_1 ?_)⟩
  refine wpS_bind (wpS_pure (wpS_stand (wpS_bind (wpS_holding (wpS.of (wpAny_pyIter_range (IsRange.new _ _ _ _ _ _ _) (small_one (by decide) (by decide) (by omega) (by omega)) ?_))))))
  refine wpS_runOwn (h := none) ?_
  show codeS (model prog w) c.A _ _ _
  obtain ⟨outer, hfr⟩ := hfr
  obtain ⟨envs, hfr', hFr⟩ := st.F
  rw [hfr] at hfr'
  cases hfr'
  have kp : ∀ (o : Obj) b o', h1.get? b = some o' → (h1.push o).get? b = some o' := fun o b o' z => Heap.get?_push_of_some _ z
  have I2 := I1.grow (kp { cls := .type "range", data := .fields #[.int 0 tk1, .int h t0, .int 1 (tk1 + 1)] })
  have hsz : Builtin.Range.rangeSize 0 h 1 = ((h.toNat : Nat) : Int) := by rw [rangeSize_one]; split <;> omega
  have I3 := I2.push (h' := (h1.push { cls := .type "range", data := .fields #[.int 0 tk1, .int h t0, .int 1 (tk1 + 1)] }).push { cls := .type "range_iterator", data := .fields #[rawInt 0, rawInt (Builtin.Range.rangeSize 0 h 1), rawInt 1] }) (m := itP (.range h.toNat) 0) (fun b o z => Heap.get?_push_of_some _ z) (get_size _) I2.size_le ⟨_, Heap.get?_push_size _ rfl, by rw [hsz]; show _ = _; simp⟩
  have le2 := le1.trans (I1.grown_le (kp { cls := .type "range", data := .fields #[.int 0 tk1, .int h t0, .int 1 (tk1 + 1)] }))
  exact for_loop (s := s) O.X C (.name hx) hfr hFr st.R hb N (Nat.le_refl _) _ 0 m σ₁ r' _ mm _ _ hr' rfl I3 (st.M.mono le2) rfl (fin.later le2)
end
end Mine
end

section
open PySem PySem.W PySem.Calls PyProof.Rows
set_option maxRecDepth 100000
namespace Mine

theorem six_of {vs : Array Value} (h : vs.size = 6) (h1 : vs[1]? = some .none) (h2 : vs[2]? = some .none) : ∃ a b c d, vs = #[a, .none, .none, b, c, d] := by
  obtain ⟨l⟩ := vs
  match l, h with
  | [a0, a1, a2, a3, a4, a5], _ =>
    simp only [List.getElem?_toArray, List.getElem?_cons_succ, List.getElem?_cons_zero, Option.some.injEq] at h1 h2
    exact ⟨a0, a3, a4, a5, by rw [h1, h2]⟩

section
variable {M : Model} {A : Around} {E : Value → Shared → Prop} {env : Env}
variable {nm q : Str} {C N : Addr} {bs bm : List Value} {hdct : Bool} {sn : List Str} {sub : List Value} {ab : Bool} {col : Option Bool} {dd : Option Addr} {k0 k1 k2 k3 k5 : Option Value} {newId : String}

theorem raise_val {s : Shared} {x : Sem Value} {Q : Flow → Shared → Prop} (hm : ExcMro bm)
    (h : wpS M A x (fun v s₁ => ∃ e dx sl a b c d, v = .ref e ∧ s₁.heap.get? C = some (excClassObj nm q C N bs bm hdct sn sub ab col dd k0 k1 k2 k3 k5 newId) ∧
      s₁.heap.get? e = some { cls := .ref C, dict := some dx, data := .fields #[a, .none, .none, b, c, d], slots := sl } ∧ wpAny M A (raiseNew (.ref e) : Sem Flow) Q E s₁) E s) :
    wpS M A (raiseStmt env (some x) none) Q E s := by
  have hcB : (Value.ref C :: bm).contains (.type "BaseException") = true := by rw [List.contains_cons, hm.base, Bool.or_true]
  unfold raiseStmt
  refine wpS_bind (wpS_q h fun v s₁ h₁ => wpS.of ?_)
  obtain ⟨e, dx, sl, a, b, c, d, rfl, hC, he, hE⟩ := h₁
  obtain ⟨hp, g, d, tk, os⟩ := s₁
  repeat (first | with_reducible refine wpAny_loadPart_at he ?_ | with_reducible refine wpAny_loadPart_at hC ?_ | (with_reducible refine wpAny_isSubtype_exc hC ?_; rw [hcB]) | wp_step)
  exact hE
end

section
variable {prog : Program} {w : World} {K : Frag} {FT : Addr → Option Fn} {g₀ : Heap} {c : Cx} {fr : List Fm} {d : Nat}

theorem subS_raise {e : Expr} {pos : Pos} {xa : Lo → List TO → R AV} (X : K.In g₀) (W : ClsOk K) (C : CxOk c) (ha : ∀ m, Sub prog w VR g₀ c fr d m (eval e c.env) (xa m)) :
    SubS prog w g₀ c fr d (exec (.Raise (some e) none pos) c.env) (fun m σ => match xa m σ with
      | some (.ok (.loc i), σ) => (match σ[i]? with
        | some (.exc C a .fresh) => if C = 59 ∨ C = 71 ∨ C = 83 then some (.exc i, m, σ.set i (.exc C a .bare)) else none
        | _ => none)
      | _ => none) := by
  intro m σ r g mm s Q E hr st fin
  dsimp only at hr
  split at hr <;> try (cases hr; done)
  rename_i i σ₁ h1
  split at hr <;> try (cases hr; done)
  rename_i D a h2
  split at hr <;> try (cases hr; done)
  rename_i hD
  cases hr
  obtain ⟨nm, q, N, bs, bm, hdct, sn, sub, ab, col, dd, k0, k1, k2, k3, k5, hK, hm⟩ := (W.exc D hD).obj
  show wpS _ _ (standAt pos >>= fun _ => raiseStmt c.env (some (eval e c.env >>= fun v => standAt pos >>= fun _ => pure v)) none) _ _ _
  refine wpS_stand (raise_val (C := D) (nm := nm) (q := q) (N := N) (bs := bs) (bm := bm) (hdct := hdct) (sn := sn) (sub := sub) (ab := ab) (col := col) (dd := dd) (k0 := k0) (k1 := k1) (k2 := k2) (k3 := k3) (k5 := k5) (newId := "Exception.__new__") hm (wpS_bind (ha m h1 st ⟨fun _ q u g1 h1 tk1 le1 I1 hu => ?_, fun _ q => nomatch q⟩)))
  cases q
  refine wpS_stand (wpS_pure ?_)
  obtain ⟨x, rfl, l⟩ := hu
  obtain ⟨x', l', dx, vs, sl, i1, t1, v1, i2, t2, t2', n, he, hf, h6, hn1, hn2⟩ := I1.so i _ h2
  rw [l] at l'; cases l'
  obtain ⟨a0, b0, c0, d0, rfl⟩ := six_of h6 hn1 hn2
  have I2 := I1.set (t := .exc D a .bare) l (Heap.SameBut.refl _ _) ⟨dx, _, sl, i1, t1, v1, i2, t2, t2', n, he, hf, hn2⟩
  refine ⟨x, dx, sl, a0, b0, c0, d0, rfl, I1.fz _ _ (I1.base _ _ (X _ _ hK)), he, wpAny_raiseNew_none C.hh ?_⟩
  exact fin.ex i m _ rfl mm x g1 h1 tk1 le1 I2 (st.M.mono le1) l ⟨D, a, .bare, by rw [List.getElem?_set_self (I1.lo i x l).1], by decide⟩ (.inl ⟨_, _, he, rfl, rfl, rfl⟩)
end
end Mine
end

section
open PySem PySem.W PySem.Calls PyProof.Rows
set_option maxRecDepth 100000
namespace Mine

/-- what is asked of an exception's class where its things are read -/
structure ExcRead (K : Frag) (C : Addr) : Prop where
  ga : findIn K (.ref C) "__getattribute__" = some (some (.builtin "BaseException.__getattribute__"))
  gk : findIn K (.ref C) "__getattr__" = some none
  at_ : findIn K (.ref C) "at" = some none
  cd : ∃ cd, clsIn K C = some cd ∧ cd.hasDict = true ∧ cd.mro.isEmpty = false ∧ cd.mro.contains (.type "BaseException") = true

section
variable {prog : Program} {w : World} {K : Frag} {A : Around} {E : Value → Shared → Prop} {s : Shared} {x C dx : Addr} {ox : Obj}

theorem exc_find (W : ExcRead K C) {h1 t1 v1 h2 t2 v2 n} : findObj K C (some (dictOf (excEs h1 t1 v1 h2 t2 v2) n)) "at" = some (.value v2) := by
  obtain ⟨cd, hc, hd, _⟩ := W.cd
  unfold findObj
  rw [hc, Option.bind_some, W.at_]
  simp only [Option.bind_some]
  unfold PySem.W.ownOf
  rw [if_pos hd]
  rfl

theorem exc_at {h1 : Int} {t1 : Tok} {v1 : Value} {h2 : Int} {t2 : Tok} {a : Int} {t2' : Tok} {n : Nat} {Q : Value → Shared → Prop} (X : K.In s.heap) (W : ExcRead K C) (I : InstAt s.heap x ox C (some (dictOf (excEs h1 t1 v1 h2 t2 (.int a t2')) n)))
    (h : Q (.int a t2') { s with toks := s.toks + 1 }) : wpAny (model prog w) A (getAttr (.ref x) "at" true) Q E s := by
  obtain ⟨cd, hc, hd, hne, hbase⟩ := W.cd
  have FB := PySem.F.attr_Exception
  have hx2 : (onTheHeap (Value.ref C) && Value.builtin "BaseException.__getattribute__" == Value.builtin "object.__getattribute__") = false := by
    rw [show (Value.builtin "BaseException.__getattribute__" == Value.builtin "object.__getattribute__") = false from by decide +kernel]; rfl
  unfold getAttr getAttrBy
  refine wpAny_bind (wpAny_mkText (wpAny_holding (wpAny_bind (I.type.here (s := { s with toks := s.toks + 1 }) (wpAny_bind ((looks_findIn X W.ga).here (s := { s with toks := s.toks + 1 }) ?_))))))
  dsimp only
  rw [hx2, if_neg (by decide)]
  unfold getAttrByItsOwn
  refine wpAny_bind ((looks_hook X (mc := .ref C) (r := none) W.gk).here (s := { s with toks := s.toks + 1 }) ?_)
  refine wpAny_bind (wpAny_attempt (wpAny_holding ?_))
  unfold callGetattribute
  rw [show (true && onTheHeap (Value.builtin "BaseException.__getattribute__")) = false from rfl, if_neg (by decide)]
  unfold boundAndCalled
  rw [FB.ga.bind]
  refine wpAny_bind (wpAny_pure ?_)
  have isI : Looks (model prog w) s.heap (isInstance (.ref x) (.type "BaseException")) true := I.type.andThen (looks_mroIn X (by unfold mroIn; rw [hc, Option.bind_some, if_neg (by rw [hne]; decide), hbase]))
  show wpAny _ _ (call (.builtin "BaseException.__getattribute__") [.ref x, .str "at" s.toks]) _ _ _
  refine wpAny_call (codeAny_call_builtin FB.ga.plain F.entry_bexc_ga (@check_slot (model prog w) _ _ { s with toks := s.toks + 1 } "BaseException.__getattribute__" "BaseException" "__getattribute__" (.ref x) [.str "at" s.toks] [] _ (by decide +kernel) (by decide +kernel) isI (F.args_bexc_ga _ _) ?_))
  unfold Builtin.«object.__getattribute__»
  refine wpAny_bind (wpAny_of_eq rfl ?_)
  dsimp only
  refine wpAny_bind (wpAny_of_eq rfl (wpAny_bind (I.type.here (s := { s with toks := s.toks + 1 }) (wpAny_bind ((looks_find X I (exc_find W)).here (s := { s with toks := s.toks + 1 }) ?_)))))
  exact wpAny_pure (wpAny_pure h)
end
end Mine
end

section
open PySem PySem.W PySem.Calls PyProof.Rows
set_option maxRecDepth 100000
namespace Mine

theorem MR.except {g : Gh} {locs : List Str} {m : Lo} {mm mm' : Str → Option Value} {n : Str} {j : Nat} (M : MR g locs m mm) (nd : locs.Nodup) (hj : locs.findIdx? (· == n) = some j) (h : ∀ y, y ≠ n → mm' y = mm y) : MR g locs (m.set j none) mm' := by
  obtain ⟨h1, h2, _⟩ := List.findIdx?_eq_some_iff_getElem.mp hj
  have h2 := eq_of_beq h2
  intro i y v hy hv
  rw [List.getElem?_set] at hv
  split at hv
  · split at hv <;> cases hv
  · rename_i e
    obtain ⟨u, hu, q⟩ := M i y v hy hv
    refine ⟨u, (h y ?_).trans hu, q⟩
    rintro rfl
    obtain ⟨hi, e2⟩ := List.getElem?_eq_some_iff.mp hy
    have P := List.pairwise_iff_getElem.mp nd
    rcases Nat.lt_trichotomy j i with z | z | z
    · exact P j i h1 hi z (h2.trans e2.symm)
    · exact e z
    · exact P i j hi h1 z (e2.trans h2.symm)

section
variable {M : Model} {A : Around} {E : Value → Shared → Prop} {h : Heap} {g : Array GenState} {d : Drawn} {t : Nat} {os : OsState}
variable {nm q : Str} {C N : Addr} {bs bm : List Value} {hdct : Bool} {sn : List Str} {sub : List Value} {ab : Bool} {col : Option Bool} {dd : Option Addr} {k0 k1 k2 k3 k5 : Option Value} {newId : String}
variable {nm' q' : Str} {C' N' : Addr} {bs' bm' : List Value} {hdct' : Bool} {sn' : List Str} {sub' : List Value} {ab' : Bool} {col' : Option Bool} {dd' : Option Addr} {k0' k1' k2' k3' k5' : Option Value} {newId' : String}

theorem exc_matches {e : Addr} {oe : Obj} {Q : Bool → Shared → Prop} (hC : h.get? C = some (excClassObj nm q C N bs bm hdct sn sub ab col dd k0 k1 k2 k3 k5 newId)) (hC' : h.get? C' = some (excClassObj nm' q' C' N' bs' bm' hdct' sn' sub' ab' col' dd' k0' k1' k2' k3' k5' newId'))
    (he : h.get? e = some oe) (hcls : oe.cls = .ref C') (hbase : bm.contains (.type "BaseException") = true) {b : Bool} (hb : (Value.ref C' :: bm').contains (.ref C) = b)
    (hq : Q b ⟨h, g, d, t, os⟩) : wpAny M A (excMatches (.ref e) (.ref C)) Q E ⟨h, g, d, t, os⟩ := by
  have hcB : (Value.ref C :: bm).contains (.type "BaseException") = true := by rw [List.contains_cons, hbase, Bool.or_true]
  have f := tc_notTuple
  unfold excMatches
  repeat (first | (with_reducible refine wpAny_loadPart_at he ?_; rw [hcls]) | with_reducible refine wpAny_loadPart_at hC ?_ | (with_reducible refine wpAny_isSubtype_exc hC ?_; rw [hcB]) | (with_reducible refine wpAny_isSubtype_exc hC' ?_; rw [hb]) | wp_step)
  cases b <;> (first | exact hq | (wp_walk; exact hq))

theorem raise_valA {s : Shared} {env : Env} {x : Sem Value} {Q : Flow → Shared → Prop} (hm : ExcMro bm)
    (h : wpAny M A x (fun v s₁ => ∃ e dx sl a b c d, v = .ref e ∧ s₁.heap.get? C = some (excClassObj nm q C N bs bm hdct sn sub ab col dd k0 k1 k2 k3 k5 newId) ∧
      s₁.heap.get? e = some { cls := .ref C, dict := some dx, data := .fields #[a, .none, .none, b, c, d], slots := sl } ∧ wpAny M A (raiseNew (.ref e) : Sem Flow) Q E s₁) E s) :
    wpAny M A (raiseStmt env (some x) none) Q E s := by
  have hcB : (Value.ref C :: bm).contains (.type "BaseException") = true := by rw [List.contains_cons, hm.base, Bool.or_true]
  unfold raiseStmt
  refine wpAny_bind (wpAny_mono h (fun v s₁ h₁ => ?_) fun _ _ z => z)
  obtain ⟨e, dx, sl, a, b, c, d, rfl, hC, he, hE⟩ := h₁
  obtain ⟨hp, g, d, tk, os⟩ := s₁
  repeat (first | with_reducible refine wpAny_loadPart_at he ?_ | with_reducible refine wpAny_loadPart_at hC ?_ | (with_reducible refine wpAny_isSubtype_exc hC ?_; rw [hcB]) | wp_step)
  exact hE
end

theorem entry_unchain : entryFor table "proto.unchain" = some Builtin.«proto.unchain» := entryFor_of_tree (by kernel_rfl)
theorem raise_handled {prog : Program} {w : World} {A : Around} {E : Value → Shared → Prop} {s : Shared} {e h : Addr} {oe oh : Obj} {ws vs : Array Value} {Q : Flow → Shared → Prop} (hh : A.handled = some (.ref h)) (hne : h ≠ e)
    (hoh : s.heap.get? h = some oh) (hdh : oh.data = .fields vs) (h2 : vs[2]? = some .none) (hoe : s.heap.get? e = some oe) (hde : oe.data = .fields ws) (hz : 2 < ws.size)
    (hE : E (.ref e) { s with heap := s.heap.update e (Obj.mapFields (·.setIfInBounds 2 (.ref h))) }) : wpAny (model prog w) A (raiseNew (.ref e) : Sem Flow) Q E s := by
  unfold raiseNew
  refine wpAny_bind (wpAny_handled ?_)
  rw [hh]
  dsimp only
  rw [if_pos (by simp [hne])]
  refine wpAny_bind (wpAny_holding (wpAny_runValue (codeAny_builtin entry_unchain ?_)))
  unfold Builtin.«proto.unchain»
  dsimp only
  refine wpAny_bind (wpAny_field hoh hdh h2 ?_)
  refine wpAny_pure ?_
  refine wpAny_bind (wpAny_setField (x := .ref h) hoe hde hz (wpAny_throw hE))
end Mine
end

section
open PySem PySem.W PySem.Calls PyProof.Rows
set_option maxRecDepth 100000
namespace Mine

/-- all that is asked of the exceptions' classes -/
structure ExcAll (K : Frag) : Prop where
  ok : ∀ C, isExcC C → ExcOk K C
  rd : ∀ C, isExcC C → ExcRead K C
  only : ∀ C D, isExcC C → isExcC D → C ≠ D → ∀ nm q N bs bm hdct sn sub ab col dd k0 k1 k2 k3 k5, K.lookup C = some (excClassObj nm q C N bs bm hdct sn sub ab col dd k0 k1 k2 k3 k5 "Exception.__new__") → (Value.ref C :: bm).contains (.ref D) = false

section
variable {prog : Program} {w : World} {K : Frag} {p : Program} {loose : List Str} {mean : ExcName → Option Value} {mg mb : Str → Option Value} {g₀ : Heap} {c : Cx} {fr : List Fm} {d : Nat}

theorem glob_any {s : Shared} {A : Around} {x : Str} {pos : Pos} {a : Addr} {Q : Value → Shared → Prop} {E : Value → Shared → Prop} (O : TopOk K p loose mean mg mb g₀) (C : CxOk c) (k : ∀ b o, g₀.get? b = some o → s.heap.get? b = some o) (hx : c.sc.names.lookup x = some .globalImplicit) (hd : x ≠ Str.ofString "__debug__")
    (hv : globV K x = some (.ref a)) (h : Q (.ref a) s) : wpAny (model prog w) A (eval (.Name x pos) c.env) Q E s := by
  refine Calls.Name_function_global C.hk ((kindOf_eq C x).trans hx) ?_ (by simpa using hd)
  have hg : s.heap.Ns c.env.globals mg := C.glob ▸ O.T.g.keeps k
  unfold globV at hv
  split at hv
  · rename_i u e
    cases hv
    exact Calls.loadGlobal_global hg (mg_of O.X O.T.g e) h
  · rename_i e
    split at hv
    · cases hv
    · rename_i hn
      exact Calls.loadGlobal_builtin hg (mg_none_of O.X O.T.g e) (C.blt ▸ O.T.b.keeps k) ((O.T.builtins x hn).trans hv) h
  · cases hv

theorem local_any {s : Shared} {A : Around} {x : Str} {pos : Pos} {v : Value} {mm : Str → Option Value} {Q : Value → Shared → Prop} {E : Value → Shared → Prop} (C : CxOk c) (hn : s.heap.Ns c.L mm) (hx : c.sc.names.lookup x = some .local) (hd : x ≠ Str.ofString "__debug__")
    (hv : mm x = some v) (h : Q v s) : wpAny (model prog w) A (eval (.Name x pos) c.env) Q E s :=
  wpAny_Name (wpAny_loadName_local C.hk ((kindOf_eq C x).trans hx) (C.loc ▸ hn) hv h) (by simpa using hd)

/-- a store of a name, whatever is handled -/
theorem store_any {σ : List TO} {g : Gh} {P : Str → Option Value} {s : Shared} {A : Around} {x : Str} {u : Value} {Q : Unit → Shared → Prop} {E : Value → Shared → Prop} (C : CxOk c) (hx : c.sc.names.lookup x = some .local) (I : Inv g₀ g ((c.L, frmP P) :: fr) σ s.heap)
    (q : ∀ h', Inv g₀ g ((c.L, frmP fun y => if y = x then some u else P y) :: fr) σ h' → Q () { s with heap := h', toks := s.toks + 1 }) : wpAny (model prog w) A (storeName c.env x u) Q E s :=
  wpAny_storeName_local ((kindOf_eq C x).trans hx) (C.loc ▸ frmP.ns (I.fs _ (.head _)).1) (fun h' hn hs => q h' (I.store (frmP.of (C.loc ▸ hn)) (C.loc ▸ hs))) (by simp [C.hk])

/-- the test of a handler -/
theorem hand_test {s : Shared} {A : Around} {x : Str} {np pos : Pos} {D : Addr} {σ : List TO} {g : Gh} {fr' : List Fm} {i e : Nat} {C' : Addr} {a : Int} {xs : XS} {R : Result → Shared → Prop} (O : TopOk K p loose mean mg mb g₀) (W : ExcAll K) (C : CxOk c) (hx : c.sc.names.lookup x = some .globalImplicit) (hd : x ≠ Str.ofString "__debug__") (hv : globV K x = some (.ref D))
    (hD : isExcC D) (hC' : isExcC C') (I : Inv g₀ g fr' σ s.heap) (l : g.loc i = some e) (hσ : σ[i]? = some (.exc C' a xs)) (h : R (.ok (if C' = D then .brk else .next)) s) :
    codeAny (model prog w) A (.handlers (.ref e) [.ExceptHandler (some (.Name x np)) none [] pos] c.env) R s := by
  refine codeAny_handlers_test (glob_any O C (fun b o z => I.fz _ _ (I.base _ _ z)) hx hd hv ?_)
  obtain ⟨e', l', dx, vs, sl, i1, t1, v1, i2, t2, t2', n, he, _⟩ := I.so i _ hσ
  rw [l] at l'; cases l'
  obtain ⟨nm, q, N, bs, bm, hdct, sn, sub, ab, col, dd, k0, k1, k2, k3, k5, hK, hm⟩ := (W.ok D hD).obj
  obtain ⟨nm', q', N', bs', bm', hdct', sn', sub', ab', col', dd', k0', k1', k2', k3', k5', hK', hm'⟩ := (W.ok C' hC').obj
  obtain ⟨hp, gg, dr, tk, os⟩ := s
  have X : K.In hp := O.X.keeps fun b o z => I.fz _ _ (I.base _ _ z)
  have hb : (Value.ref C' :: bm').contains (.ref D) = decide (C' = D) := by
    by_cases q : C' = D
    · subst q; simp
    · rw [W.only C' D hC' hD q _ _ _ _ _ _ _ _ _ _ _ _ _ _ _ _ hK', decide_eq_false q]
  refine exc_matches (X _ _ hK) (X _ _ hK') he rfl hm.base hb ?_
  by_cases q : C' = D
  · rw [if_pos q] at h; rw [decide_eq_true q]; exact h
  · rw [if_neg q] at h; rw [decide_eq_false q]; exact h
end
end Mine
end

section
open PySem PySem.W PySem.Calls PyProof.Rows
set_option maxRecDepth 100000
namespace Mine

section
variable {prog : Program} {w : World} {K : Frag} {p : Program} {loose : List Str} {mean : ExcName → Option Value} {mg mb : Str → Option Value} {g₀ : Heap} {c : Cx} {fr : List Fm} {d : Nat} {FT : Addr → Option Fn}

theorem hand_nil {s : Shared} {e i : Addr} {outer : List Env} {g : Gh} {fr' : List Fm} {σ : List TO} {Q : Flow → Shared → Prop} {E : Value → Shared → Prop} (C : CxOk c) (hFr : FrIn fr' (c.env :: outer)) (I : Inv g₀ g fr' σ s.heap) (l : g.loc i = some e) (hσ : Rsd σ i)
    (hx : ExTr g fr' s.heap e .none) (q : ∀ h', Inv g₀ g fr' σ h' → ExTr g fr' h' e (rawInt c.Lf) → E (.ref e) { s with heap := h' }) : wpAny (model prog w) c.A (handleBy (.ref e) c.env []) Q E s := by
  refine wpAny_handleBy_nil ?_
  unfold PySem.passOn
  obtain ⟨oe, vs, T, oT, ts, he, hd, hz, h1, r⟩ := id hx
  refine wpAny_bind (wpAny_field he hd h1 ?_)
  rw [if_neg (by simp), C.frame]
  exact wpAny_bind (flight_ok (to := some c.Lf) hFr I l hσ hx fun h' I' t => wpAny_throw (q h' I' t))

/-- found = None -/
theorem suite_none {s : Shared} {A : Around} {e i : Addr} {g : Gh} {σ : List TO} {mm : Str → Option Value} {x : Str} {k : Nat} {p1 p2 p3 pos : Pos} {e1 : Nat} {envs : List Env} {m : Lo} {R : Result → Shared → Prop} (C : CxOk c) (hx1 : locIx c.locs c.sc x = some k) (hFr : FrIn ((c.L, frmP mm) :: fr) envs) (I : Inv g₀ g ((c.L, frmP mm) :: fr) σ s.heap) (M : MR g c.locs m mm)
    (l : g.loc i = some e) (hσ : Rsd σ i) (hx : ExTr g ((c.L, frmP mm) :: fr) s.heap e .none) (q : ∀ mm' h' tk, Inv g₀ g ((c.L, frmP mm') :: fr) σ h' → MR g c.locs (m.set k (some .none)) mm' → R (.ok .next) { s with heap := h', toks := tk }) :
    codeAny (model prog w) A (.handlers (.ref e) [.ExceptHandler none none [.Assign [.Name x p1] (.Constant .none e1 p2) p3] pos] c.env) R s := by
  obtain ⟨h1, h2⟩ := locIx_some hx1
  refine codeAny_handlers_suite (flight_ok (to := none) hFr I l hσ hx fun h' I' t => ?_)
  refine wpAny_execs_cons (wpAny_Assign_Name (wpAny_Constant_none (store_any (s := { s with heap := h' }) C h1 I' fun h2' I2 => ?_)) rfl)
  exact wpAny_execs_nil (q _ h2' _ I2 (M.store C.nd h2 rfl))

/-- found = fault.at -/
theorem suite_at {s : Shared} {A B : Around} {e i : Addr} {g : Gh} {σ : List TO} {mm : Str → Option Value} {x n : Str} {k j : Nat} {p1 p2 p3 p4 pos : Pos} {envs : List Env} {m : Lo} {D : Addr} {a : Int} {xs : XS} {Q : Flow → Shared → Prop} {E E' : Value → Shared → Prop} (O : TopOk K p loose mean mg mb g₀) (W : ExcAll K) (C : CxOk c) (hD : isExcC D)
    (hx1 : locIx c.locs c.sc x = some k) (hn1 : locIx c.locs c.sc n = some j) (hkj : k ≠ j) (hnd : n ≠ Str.ofString "__debug__") (hFr : FrIn ((c.L, frmP mm) :: fr) envs) (I : Inv g₀ g ((c.L, frmP mm) :: fr) σ s.heap) (M : MR g c.locs m mm)
    (l : g.loc i = some e) (hi : σ[i]? = some (.exc D a xs)) (hσ : Rsd σ i) (hx : ExTr g ((c.L, frmP mm) :: fr) s.heap e .none) (q : ∀ mm' h' tk, Inv g₀ g ((c.L, frmP mm') :: fr) σ h' → MR g c.locs ((m.set k (some (.int a))).set j none) mm' → Q .next { s with heap := h', toks := tk }) :
    codeAny (model prog w) A (.handlers (.ref e) [.ExceptHandler none (some n) [.Assign [.Name x p1] (.Attribute (.Name n p2) "at" p3) p4] pos] c.env)
      (fun r s₂ => match r with
        | .ok f => wpAny (model prog w) B (do bindName c.env n .none; unbindBehindTheSuite c.env n pos) (fun _ s₃ => Q f s₃) E s₂
        | .error y => E' y s₂) s := by
  obtain ⟨h1, h2⟩ := locIx_some hx1
  obtain ⟨n1, n2⟩ := locIx_some hn1
  have hxn : x ≠ n := by
    rintro rfl
    rw [h2] at n2; cases n2
    exact hkj rfl
  refine codeAny_handlers_suite_as (flight_ok (to := none) hFr I l hσ hx fun h3 I3 t => ?_)
  refine store_any (s := { s with heap := h3 }) C n1 I3 fun h4 I4 => ?_
  obtain ⟨e', l', dx, vs, sl, i1, t1, v1, i2, t2, t2', nn, he, hf, _⟩ := I4.so i _ hi
  rw [l] at l'; cases l'
  have X4 : K.In h4 := O.X.keeps fun b o z => I4.fz _ _ (I4.base _ _ z)
  have hns4 := frmP.ns (I4.fs _ (.head _)).1
  refine wpAny_execs_cons (wpAny_Assign_Name (s := { s with heap := h4, toks := s.toks + 1 }) ?_ rfl)
  show wpAny _ _ (eval (.Name n p2) c.env >>= fun o => standAt p3.atName >>= fun _ => holding [o] (getAttr o "at" true) >>= fun r => letTemporaryGo (.Name n p2) o r >>= fun _ => pure r) _ _ _
  refine wpAny_bind (local_any (s := { s with heap := h4, toks := s.toks + 1 }) C hns4 n1 hnd (by simp; rfl) (wpAny_bind (wpAny_standAt (wpAny_bind (wpAny_holding ?_)))))
  refine exc_at (s := { s with heap := h4, toks := s.toks + 1 }) X4 (W.rd D hD) ⟨he, rfl, rfl, I4.fz _ _ hf⟩ ?_
  refine wpAny_bind (wpAny_pure (wpAny_pure (store_any (s := { s with heap := h4, toks := s.toks + 1 + 1 }) C h1 I4 fun h5 I5 => ?_)))
  refine wpAny_execs_nil ?_
  refine wpAny_bind (wpAny_bindName (store_any (s := { s with heap := h5, toks := s.toks + 1 + 1 + 1 }) C n1 I5 fun h6 I6 => ?_))
  unfold unbindBehindTheSuite
  have hns6 := frmP.ns (I6.fs _ (.head _)).1
  refine wpAny_onRaise (wpAny_unbindName_local (s := { s with heap := h6, toks := s.toks + 1 + 1 + 1 + 1 }) ((kindOf_eq C n).trans n1) (C.loc ▸ hns6) (by simp; rfl) (by simp [C.hk]) fun h7 u hn7 hs7 => ?_)
  have I7 := I6.store (frmP.of (C.loc ▸ hn7)) (C.loc ▸ hs7)
  refine q _ h7 _ I7 ((M.store (v := .int a) (u := .int a t2') C.nd h2 ⟨t2', rfl⟩).except C.nd n2 fun y hy => ?_)
  simp [hy]

/-- raise D(msg, y) -/
theorem suite_raise {s : Shared} {A : Around} {e i : Addr} {g : Gh} {σ : List TO} {mm : Str → Option Value} {x y : Str} {msg : Str} {j : Nat} {p1 p2 p3 p4 p5 pos : Pos} {e1 : Nat} {outer : List Env} {m : Lo} {D D' : Addr} {a b : Int} {R : Result → Shared → Prop} (O : TopOk K p loose mean mg mb g₀) (W : ExcAll K) (C : CxOk c) (hD : isExcC D)
    (hA : A.handled = some (.ref e)) (hfr : A.frames = some (c.env :: outer)) (hroom : A.depth + 1 < recursionLimit) (hx1 : c.sc.names.lookup x = some .globalImplicit) (hxd : x ≠ Str.ofString "__debug__") (hv : globV K x = some (.ref D)) (hy1 : locIx c.locs c.sc y = some j) (hyd : y ≠ Str.ofString "__debug__")
    (hFr : FrIn ((c.L, frmP mm) :: fr) (c.env :: outer)) (I : Inv g₀ g ((c.L, frmP mm) :: fr) σ s.heap) (M : MR g c.locs m mm) (hb : m[j]? = some (some (.int b)))
    (l : g.loc i = some e) (hi : σ[i]? = some (.exc D' a .bare)) (hx : ExTr g ((c.L, frmP mm) :: fr) s.heap e .none)
    (q : ∀ e' g' h' tk, g.le g' → Inv g₀ g' ((c.L, frmP mm) :: fr) (σ ++ [.exc D b .any]) h' → g'.loc σ.length = some e' → ExTr g' ((c.L, frmP mm) :: fr) h' e' (rawInt c.Lf) → R (.error (.ref e')) { s with heap := h', toks := tk }) :
    codeAny (model prog w) A (.handlers (.ref e) [.ExceptHandler none none [.Raise (some (.Call (.Name x p1) [.Constant (.str msg) e1 p2, .Name y p3] [] p4)) none p5] pos] c.env) R s := by
  obtain ⟨y1, y2⟩ := locIx_some hy1
  have hσ : Rsd σ i := ⟨D', a, .bare, hi, by decide⟩
  obtain ⟨u, hu, t0, rfl⟩ := M j y _ (by
    obtain ⟨h1, h2, _⟩ := List.findIdx?_eq_some_iff_getElem.mp y2
    rw [List.getElem?_eq_getElem h1, eq_of_beq h2]) hb
  refine codeAny_handlers_suite (flight_ok (to := none) hFr I l hσ hx fun h3 I3 t => ?_)
  obtain ⟨nm, q', N, bs, bm, hdct, sn, sub, ab, col, dd, k0, k1, k2, k3, k5, hK, hm⟩ := (W.ok D hD).obj
  have k3' : ∀ b o, g₀.get? b = some o → h3.get? b = some o := fun b o z => I3.fz _ _ (I3.base _ _ z)
  have hns3 := frmP.ns (I3.fs _ (.head _)).1
  refine wpAny_execs_cons ?_
  rw [arm_exec_Raise]
  refine wpAny_bind (wpAny_standAt ?_)
  refine raise_valA (C := D) (nm := nm) (q := q') (N := N) (bs := bs) (bm := bm) (hdct := hdct) (sn := sn) (sub := sub) (ab := ab) (col := col) (dd := dd) (k0 := k0) (k1 := k1) (k2 := k2) (k3 := k3) (k5 := k5) (newId := "Exception.__new__") hm ?_
  refine wpAny_bind ?_
  show wpAny _ _ (eval (.Name x p1) c.env >>= fun f => callWith p4 f [] (backTo p4 (starEach [.Constant (.str msg) e1 p2, .Name y p3] c.env)) []) _ _ _
  refine wpAny_bind (glob_any (s := { s with heap := h3 }) O C k3' hx1 hxd hv ?_)
  refine callWith_K (O.X.keeps k3') (W.ok D hD).keep ?_
  show wpAny _ _ (spliced [(false, eval (.Constant (.str msg) e1 p2) c.env), (false, eval (.Name y p3) c.env)]) _ _ _
  refine spliced_two (wpAny_Constant_str ?_)
  refine local_any (s := { s with heap := h3, toks := s.toks + 1 }) C hns3 y1 hyd hu ⟨O.X.keeps k3', ?_⟩
  refine exc_made (x := msg.cps.toList) (a := b) (s := { s with heap := h3, toks := s.toks + 1 }) O (W.ok D hD) hroom I3 I3.size_le ⟨s.toks, by simp⟩ ⟨t0, rfl⟩ fun e' g1 h4 tk4 le4 I4 l4 _ => ?_
  obtain ⟨x'', l'', dx, vs, sl, i1, t1, v1, i2, t2, t2', n, he, hf, h6, hn1, hn2⟩ := I4.so σ.length (.exc D b .fresh) (by simp)
  rw [l4] at l''; cases l''
  obtain ⟨a0, b0, c0, d0, rfl⟩ := six_of h6 hn1 hn2
  obtain ⟨x3, l3, dx3, vs3, sl3, _, _, _, _, _, _, _, he3, _, hc3⟩ := I4.so i (.exc D' a .bare) (by rw [List.getElem?_append_left (I.lo i e l).1]; exact hi)
  rw [le4.2 i e l] at l3; cases l3
  have hne : e ≠ e' := fun q => by
    subst q
    have := I4.inj i σ.length e (le4.2 i e l) l4
    exact absurd (this ▸ (I.lo i e l).1) (Nat.lt_irrefl _)
  refine wpAny_bind (wpAny_standAt (wpAny_pure ?_))
  refine ⟨e', dx, sl, a0, b0, c0, d0, rfl, I4.fz _ _ (I4.base _ _ (O.X _ _ hK)), he, ?_⟩
  refine raise_handled (s := { s with heap := h4, toks := tk4 }) hA hne he3 rfl hc3 he rfl (by simp) ?_
  have he5 := Heap.get?_update_self (Obj.mapFields (·.setIfInBounds 2 (.ref e))) he rfl
  have I5 := I4.set (t := .exc D b .any) l4 (Heap.SameBut.update h4 e' (Obj.mapFields (·.setIfInBounds 2 (.ref e)))) ⟨dx, _, sl, i1, t1, v1, i2, t2, t2', n, he5, hf, trivial⟩
  rw [show (σ ++ [TO.exc D b .fresh]).set σ.length (.exc D b .any) = σ ++ [.exc D b .any] by simp] at I5
  have hσ5 : Rsd (σ ++ [.exc D b .any]) σ.length := ⟨D, b, .any, by simp, by decide⟩
  refine note_ok (s := { s with heap := h4.update e' (Obj.mapFields (·.setIfInBounds 2 (.ref e))), toks := tk4 }) hfr C.frame hFr I5 l4 hσ5 (.inl ⟨_, _, he5, rfl, rfl, rfl⟩) fun h6 I6 t6 => ?_
  exact q e' g1 h6 tk4 le4 I6 l4 t6

theorem hand_ok (O : TopOk K p loose mean mg mb g₀) (W : ExcAll K) (C : CxOk c) {outer : List Env} (hfr : c.A.frames = some (c.env :: outer)) (hR : c.A.depth + 1 < recursionLimit) : ∀ {hs : List ExceptHandler} {ihs : List (Addr × Option Nat × HS)}, cHandlers K c.locs c.sc hs = some ihs →
    ∀ {i e : Addr} {m : Lo} {σ : List TO} {r : Out × Lo × List TO} {g : Gh} {mm : Str → Option Value} {s : Shared} {Q : Flow → Shared → Prop} {E : Value → Shared → Prop}, evHs ihs i m σ = some r → Inv g₀ g ((c.L, frmP mm) :: fr) σ s.heap → MR g c.locs m mm → (∀ mm', FrIn ((c.L, frmP mm') :: fr) (c.env :: outer)) →
      g.loc i = some e → Rsd σ i → ExTr g ((c.L, frmP mm) :: fr) s.heap e .none → FinS g₀ c fr r g s Q E → wpAny (model prog w) c.A (handleBy (.ref e) c.env hs) Q E s
  | [], ihs, hc, i, e, m, σ, r, g, mm, s, Q, E, hr, I, M, hFr, l, hσ, hx, fin => by
    cases hc
    unfold evHs at hr
    cases hr
    exact hand_nil C (hFr mm) I l hσ hx fun h' I' t => fin.ex i m σ rfl mm e g h' s.toks (Gh.le.refl g) I' M l hσ (.inr (.inr t))
  | h :: hs, ihs, hc, i, e, m, σ, r, g, mm, s, Q, E, hr, I, M, hFr, l, hσ, hx, fin => by
    unfold cHandlers at hc
    split at hc
    · rename_i q; cases q
    · rename_i x np name body pos rest q
      cases q
      split at hc
      · cases hc
      · rename_i hdb
        split at hc
        · rename_i D hx1 hv
          simp only [Option.bind_eq_some_iff, Option.map_eq_some_iff] at hc
          obtain ⟨k, hk, sx, hsx, ihs', hc', rfl⟩ := hc
          unfold evHs at hr
          split at hr
          · rename_i C' a xs hi
            split at hr
            · rename_i hD
              obtain ⟨hD, hC'⟩ := hD
              refine wpAny_handleBy_cons (hand_test O W C hx1 hdb hv hD hC' I l hi ?_) (by intro q; cases q)
              split at hr
              · rename_i hCD
                rw [if_pos hCD]
                subst hCD
                unfold cSuite at hsx
                split at hsx
                · -- found = fault.at
                  rename_i x1 p1 y p2 a1 p3 p4
                  split at hsx
                  · rename_i hy
                    obtain ⟨rfl, rfl, hyd⟩ := hy
                    simp only [Option.bind_eq_some_iff, Option.map_eq_some_iff] at hsx hk
                    obtain ⟨k1, hk1, j1, hj1, rfl⟩ := hsx
                    obtain ⟨j, hj, rfl⟩ := hk
                    rw [hj1] at hj; cases hj
                    dsimp only at hr
                    split at hr
                    · rename_i hc2
                      cases hr
                      exact suite_at O W C hC' hk1 hj1 hc2.2 hyd (hFr mm) I M l hi hσ hx fun mm' h' tk I' M' => fin.nxt _ _ rfl mm' g h' tk (Gh.le.refl g) I' M'
                    · cases hr
                  · cases hsx
                · -- found = None
                  rename_i x1 p1 e1 p2 p3
                  simp only [Option.map_eq_some_iff] at hsx
                  obtain ⟨k1, hk1, rfl⟩ := hsx
                  cases k with
                  | some j => cases hr
                  | none =>
                    dsimp only at hr
                    cases hr
                    cases name with
                    | some x2 => simp at hk
                    | none => exact suite_none C hk1 (hFr mm) I M l hσ hx fun mm' h' tk I' M' => fin.nxt _ _ rfl mm' g h' tk (Gh.le.refl g) I' M'
                · -- raise
                  rename_i x1 p1 msg e1 p2 y p3 p4 p5
                  split at hsx
                  · cases hsx
                  · rename_i hdbs
                    rw [not_or] at hdbs
                    split at hsx
                    · rename_i D hxl hvl
                      simp only [Option.map_eq_some_iff] at hsx
                      obtain ⟨j1, hj1, rfl⟩ := hsx
                      cases k with
                      | some j => cases hr
                      | none =>
                        dsimp only at hr
                        split at hr
                        · rename_i b hb
                          split at hr
                          · rename_i hD2
                            cases hr
                            obtain ⟨hDD, rfl⟩ := hD2
                            cases name with
                            | some x2 => simp at hk
                            | none =>
                              refine suite_raise (A := c.A.mark (some (.ref e))) (outer := outer) O W C hDD rfl hfr hR hxl hdbs.1 hvl hj1 hdbs.2 (hFr mm) I M hb l hi hx fun e' g' h' tk le I' l' t => ?_
                              refine came_ok (s := { s with heap := h', toks := tk }) (outer := outer) hfr C.frame (hFr mm) I' l' ⟨D, b, .any, by simp, by decide⟩ t fun h'' I'' t'' => ?_
                              exact fin.ex σ.length m _ rfl mm e' g' h'' tk le I'' (M.mono le) l' ⟨D, b, .any, by simp, by decide⟩ (.inr (.inr t''))
                          · cases hr
                        · cases hr
                    · cases hsx
                · cases hsx
              · rename_i hCD
                rw [if_neg hCD]
                exact hand_ok O W C hfr hR hc' hr I M hFr l hσ hx fin
            · cases hr
          · cases hr
        · cases hc
    · cases hc
end
end Mine
end

section
open PySem PySem.W PySem.Calls PyProof.Rows
set_option maxRecDepth 100000
namespace Mine

section
variable {prog : Program} {w : World} {K : Frag} {p : Program} {loose : List Str} {mean : ExcName → Option Value} {mg mb : Str → Option Value} {g₀ : Heap} {c : Cx} {fr : List Fm} {d : Nat} {FT : Addr → Option Fn}

theorem subS_try {b : List Stmt} {h : ExceptHandler} {hs : List ExceptHandler} {pos : Pos} {ihs : List (Addr × Option Nat × HS)} {yb : Lo → List TO → RS} (O : TopOk K p loose mean mg mb g₀) (W : ExcAll K) (C : CxOk c) (hfr : ∃ outer, c.A.frames = some (c.env :: outer)) (hc : cHandlers K c.locs c.sc (h :: hs) = some ihs)
    (hb : SubS prog w g₀ c fr d (execs b c.env) yb) :
    SubS prog w g₀ c fr d (exec (.Try b (h :: hs) [] [] pos) c.env) (fun m σ => match yb m σ with
      | some (.exc i, m, σ) => evHs ihs i m σ
      | r => r) := by
  intro m σ r g mm s Q E hr st fin
  obtain ⟨outer, hfr⟩ := hfr
  rw [arm_exec_Try]
  refine wpS_stand ?_
  unfold tryStmt
  simp only [List.isEmpty_nil, if_true, List.isEmpty_cons, Bool.false_and, Bool.false_eq_true, if_false]
  obtain ⟨envs, hfr', hFr⟩ := st.F
  rw [hfr] at hfr'
  cases hfr'
  have hF : ∀ mm', FrIn ((c.L, frmP mm') :: fr) (c.env :: outer) := fun mm' => hFr.head (Slt.frm mm')
  dsimp only at hr
  split at hr
  · rename_i i m₁ σ₁ e
    refine wpS_bind (wpS_attempt (hb e st ⟨fun _ _ q => (nomatch q), fun _ _ _ q => (nomatch q), fun j m' σ' q mm' e g' h' tk le I M l hσ hE => ?_⟩))
    cases q
    refine wpS_bind (wpS.of (note_ok (s := { s with heap := h', toks := tk }) hfr C.frame (hF mm') I l hσ hE fun h2 I2 t2 => ?_))
    refine wpS_bind (wpS.of (flight_ok (s := { s with heap := h2, toks := tk }) (to := none) (hF mm') I2 l hσ t2 fun h3 I3 t3 => ?_))
    exact wpS.of (hand_ok (s := { s with heap := h3, toks := tk }) O W C hfr (by have := st.R.1; omega) hc hr I3 M hF l hσ t3 (fin.later le))
  · rename_i x hne
    refine wpS_bind (wpS_attempt (hb hr st ⟨fun m' σ' q mm' g' h' tk le I M => ?_, fun v m' σ' q mm' u g' h' tk le I ru => ?_, fun i m' σ' q => ?_⟩))
    · exact wpS_pure (fin.nxt m' σ' q mm' g' h' tk le I M)
    · exact wpS_pure (fin.ret v m' σ' q mm' u g' h' tk le I ru)
    · subst q; exact (hne _ _ _ hr).elim
end
end Mine
end

section
open PySem PySem.W PySem.Calls PyProof.Rows
set_option maxRecDepth 100000
namespace Mine

theorem Sub.conv {α β : Type} {prog : Program} {w : World} {rel : Gh → α → β → Prop} {g₀ : Heap} {c : Cx} {fr : List Fm} {d : Nat} {m : Lo} {t : Sem β} {x x' : List TO → R α} (h : Sub prog w rel g₀ c fr d m t x) (k : ∀ σ r, x' σ = some r → x σ = some r) : Sub prog w rel g₀ c fr d m t x' :=
  fun hx st fin => h (k _ _ hx) st fin
theorem SubS.conv {prog : Program} {w : World} {g₀ : Heap} {c : Cx} {fr : List Fm} {d : Nat} {t : Sem Flow} {x x' : Lo → List TO → RS} (h : SubS prog w g₀ c fr d t x) (k : ∀ m σ r, x' m σ = some r → x m σ = some r) : SubS prog w g₀ c fr d t x' :=
  fun hx st fin => h (k _ _ _ hx) st fin

theorem compCx_ok {c : Cx} {csc : Scope} {L : Addr} {x : Str} (C : CxOk c) (h : compOk csc x = true) : CxOk (compCx c csc L x) where
  hk := (compOk_parts h).1
  names := rfl
  loc := rfl
  glob := C.glob
  blt := C.blt
  frame := C.frame
  nd := by simp
  hh := C.hh

/-- the frame's own activation is on top -/
noncomputable def Top1 (c : Cx) : Prop := ∃ outer, c.A.frames = some (c.env :: outer)

structure All (prog : Program) (w : World) (K : Frag) (g₀ : Heap) (n : Nat) : Prop where
  e : ∀ d c fr m N e ie, CxOk c → cE K N c.locs c.sc e = some ie → Sub prog w VR g₀ c fr d m (eval e c.env) (fun σ => evE K (cF K) n d m ie σ)
  t : ∀ d c fr m N e ie, CxOk c → cE K N c.locs c.sc e = some ie → Sub prog w BR g₀ c fr d m (isTrue e c.env (eval e c.env)) (fun σ => evT K (cF K) n d m ie σ)
  al : ∀ d c fr m N op es ies, CxOk c → cEs K N c.locs c.sc es = some ies → Sub prog w BR g₀ c fr d m (allTrue op es c.env) (fun σ => evAll K (cF K) n d m (op == .And) ies σ)
  bo : ∀ d c fr m N op pos e es ies, CxOk c → cEs K N c.locs c.sc (e :: es) = some ies → Sub prog w VR g₀ c fr d m (boolOp pos op (evalEach (e :: es) c.env)) (fun σ => bnd (evAll K (cF K) n d m (op == .And) ies σ) fun b σ => ret (.bool b) σ)
  es : ∀ d c fr m N pos es ies, CxOk c → cEs K N c.locs c.sc es = some ies → Sub prog w VRs g₀ c fr d m (spliced (backTo pos (starEach es c.env))) (fun σ => evEs K (cF K) n d m ies σ)
  o : ∀ d c fr m N e ie, CxOk c → cO K N c.locs c.sc e = some ie → Sub prog w OptR g₀ c fr d m (valueOrNone (evalOpt e c.env)) (fun σ => evO K (cF K) n d m ie σ)
  fn : ∀ d c fr m, CxOk c → FnOk prog w g₀ c fr d m (fun a as σ => evFn K (cF K) n d a as σ)
  s : ∀ d c fr N st is, CxOk c → Top1 c → cS K N c.locs c.sc st = some is → SubS prog w g₀ c fr d (exec st c.env) (fun m σ => evS K (cF K) n d is m σ)
  ss : ∀ d c fr N l il, CxOk c → Top1 c → cSs K N c.locs c.sc l = some il → SubS prog w g₀ c fr d (execs l c.env) (fun m σ => evSs K (cF K) n d il m σ)

section
variable {prog : Program} {w : World} {K : Frag} {p : Program} {loose : List Str} {mean : ExcName → Option Value} {mg mb : Str → Option Value} {g₀ : Heap}

theorem all_zero : All prog w K g₀ 0 where
  e := fun _ _ _ _ _ _ _ _ _ => by intro σ r σ' g mm s Q E hx; simp [evE_0] at hx
  t := fun _ _ _ _ _ _ _ _ _ => by intro σ r σ' g mm s Q E hx; simp [evT_0] at hx
  al := fun _ _ _ _ _ _ _ _ _ _ => by intro σ r σ' g mm s Q E hx; simp [evAll_0] at hx
  bo := fun _ _ _ _ _ _ _ _ _ _ _ _ => by intro σ r σ' g mm s Q E hx; simp [evAll_0] at hx
  es := fun _ _ _ _ _ _ _ _ _ _ => by intro σ r σ' g mm s Q E hx; simp [evEs_0] at hx
  o := fun _ _ _ _ _ _ _ _ _ => by intro σ r σ' g mm s Q E hx; simp [evO_0] at hx
  fn := fun _ _ _ _ _ => by intro a as us σ r σ' g mm s Q E hx; simp [evFn_0] at hx
  s := fun _ _ _ _ _ _ _ _ _ => by intro m σ r g mm s Q E hx; simp [evS_0] at hx
  ss := fun _ _ _ _ _ _ _ _ _ => by intro m σ r g mm s Q E hx; simp [evSs_0] at hx

theorem all_fn {n : Nat} (O : TopOk K p loose mean mg mb g₀) (A : All prog w K g₀ n) : ∀ d c fr m, CxOk c → FnOk prog w g₀ c fr d m (fun a as σ => evFn K (cF K) (n + 1) d a as σ) := by
  intro d c fr m C a as us σ r σ' g mm s Q E hx ha st fin
  cases d with
  | zero => simp [evFn_00] at hx
  | succ d => exact fn_ok O C (fun c' fr' C' hf bd ib hcs => A.ss d c' fr' 40 bd ib C' hf hcs) hx ha st fin

theorem all_o {n : Nat} (A : All prog w K g₀ n) : ∀ d c fr m N e ie, CxOk c → cO K N c.locs c.sc e = some ie → Sub prog w OptR g₀ c fr d m (valueOrNone (evalOpt e c.env)) (fun σ => evO K (cF K) (n + 1) d m ie σ) := by
  intro d c fr m N e ie C h
  cases N with
  | zero => simp [cO] at h
  | succ N =>
    cases e with
    | none => simp only [cO] at h; cases h; exact Sub.conv sub_none fun σ r hx => by simpa only [evO_none] using hx
    | some e =>
      simp only [cO, Option.map_eq_some_iff] at h
      obtain ⟨ie', h, rfl⟩ := h
      exact Sub.conv (sub_some (A.e d c fr m N e ie' C h)) fun σ r hx => by simpa only [evO_some] using hx

theorem all_es {n : Nat} (A : All prog w K g₀ n) : ∀ d c fr m N pos es ies, CxOk c → cEs K N c.locs c.sc es = some ies → Sub prog w VRs g₀ c fr d m (spliced (backTo pos (starEach es c.env))) (fun σ => evEs K (cF K) (n + 1) d m ies σ) := by
  intro d c fr m N pos es ies C h
  cases N with
  | zero => simp [cEs] at h
  | succ N =>
    cases es with
    | nil => simp only [cEs] at h; cases h; exact Sub.conv sub_items_nil fun σ r hx => by simpa only [evEs_nil] using hx
    | cons e es =>
      simp only [cEs, Option.bind_eq_some_iff, Option.map_eq_some_iff] at h
      obtain ⟨ie, h1, ies', h2, rfl⟩ := h
      exact Sub.conv (sub_items_cons (cE_plain h1).1 (A.e d c fr m N e ie C h1) (A.es d c fr m N pos es ies' C h2)) fun σ r hx => by simpa only [evEs_cons] using hx

theorem all_al {n : Nat} (A : All prog w K g₀ n) : ∀ d c fr m N op es ies, CxOk c → cEs K N c.locs c.sc es = some ies → Sub prog w BR g₀ c fr d m (allTrue op es c.env) (fun σ => evAll K (cF K) (n + 1) d m (op == .And) ies σ) := by
  intro d c fr m N op es ies C h
  cases N with
  | zero => simp [cEs] at h
  | succ N =>
    cases es with
    | nil => simp only [cEs] at h; cases h; exact Sub.conv sub_allTrue_nil fun σ r hx => by simpa only [evAll_nil] using hx
    | cons e es =>
      simp only [cEs, Option.bind_eq_some_iff, Option.map_eq_some_iff] at h
      obtain ⟨ie, h1, ies', h2, rfl⟩ := h
      exact Sub.conv (sub_allTrue_cons (A.t d c fr m N e ie C h1) (A.al d c fr m N op es ies' C h2)) fun σ r hx => by simpa only [evAll_cons] using hx

theorem evT_asB {n d : Nat} {m : Lo} {e : IE} {σ : List TO} : evT K (cF K) (n + 1) d m e σ = bnd (evE K (cF K) n d m e σ) asB := by
  rfl

theorem all_bo {n : Nat} (IH : ∀ k ≤ n, All prog w K g₀ k) : ∀ d c fr m N op pos e es ies, CxOk c → cEs K N c.locs c.sc (e :: es) = some ies → Sub prog w VR g₀ c fr d m (boolOp pos op (evalEach (e :: es) c.env)) (fun σ => bnd (evAll K (cF K) (n + 1) d m (op == .And) ies σ) fun b σ => ret (.bool b) σ) := by
  intro d c fr m N op pos e es ies C h
  cases N with
  | zero => simp [cEs] at h
  | succ N =>
    simp only [cEs, Option.bind_eq_some_iff, Option.map_eq_some_iff] at h
    obtain ⟨ie, h1, ies', h2, rfl⟩ := h
    cases n with
    | zero => intro σ r σ' g mm s Q E hx; simp [evAll_cons, evT_0] at hx
    | succ n =>
      cases es with
      | nil =>
        have : ies' = [] := by
          cases N with
          | zero => simp [cEs] at h2
          | succ N => simp only [cEs] at h2; cases h2; rfl
        subst this
        intro σ r σ' g mm s Q E hx st fin
        refine sub_boolOp_one (op := op) (pos := pos) ((IH n (by omega)).e d c fr m N e ie C h1) ?_ st fin
        dsimp only at hx
        rw [evAll_cons, evT_asB] at hx
        simpa only [evAll_nil] using hx
      | cons e' es =>
        intro σ r σ' g mm s Q E hx st fin
        refine sub_boolOp_cons (op := op) (pos := pos) ((IH n (by omega)).e d c fr m N e ie C h1) ((IH (n + 1) (by omega)).bo d c fr m N op pos e' es ies' C h2) ?_ st fin
        dsimp only at hx
        rw [evAll_cons, evT_asB] at hx
        exact hx
end
end Mine
end

section
open PySem PySem.W PySem.Calls PyProof.Rows
set_option maxRecDepth 100000
namespace Mine

section
variable {prog : Program} {w : World} {K : Frag} {p : Program} {loose : List Str} {mean : ExcName → Option Value} {mg mb : Str → Option Value} {g₀ : Heap}

theorem name_ok {n d : Nat} {c : Cx} {fr : List Fm} {m : Lo} {id : Str} {pos : Pos} {ie : IE} (O : TopOk K p loose mean mg mb g₀) (C : CxOk c) (h : cName K c.locs c.sc id = some ie) : Sub prog w VR g₀ c fr d m (eval (.Name id pos) c.env) (fun σ => evE K (cF K) (n + 1) d m ie σ) := by
  intro σ r σ' g mm s Q E hx st fin
  dsimp only at hx
  unfold cName at h
  split at h
  · cases h
  rename_i hd
  split at h
  · rename_i hl
    simp only [Option.map_eq_some_iff] at h
    obtain ⟨k, hk, rfl⟩ := h
    rw [evE_var] at hx
    exact sub_var C hl hd hk hx st fin
  · rename_i hl
    simp only [Option.map_eq_some_iff] at h
    obtain ⟨v, hv, rfl⟩ := h
    rw [evE_const] at hx
    exact sub_glob O C hl hd hv hx st fin
  · cases h

theorem cEs_nil {n : Nat} {locs : List Str} {sc : Scope} {ies : List IE} (h : cEs K n locs sc [] = some ies) : ies = [] := by
  cases n with
  | zero => simp [cEs] at h
  | succ n => simp only [cEs] at h; cases h; rfl

theorem evT_bnd {α : Type} {n d : Nat} {m : Lo} {e : IE} {σ : List TO} {f : Bool → List TO → R α} {r : Ex α} {σ' : List TO} (h : bnd (evT K (cF K) n d m e σ) f = some (r, σ')) : ∃ k, n = k + 1 ∧ bnd (bnd (evE K (cF K) k d m e σ) asB) f = some (r, σ') := by
  cases n with
  | zero => simp [evT_0] at h
  | succ k => rw [evT_asB] at h; exact ⟨k, rfl, h⟩

theorem all_e {n : Nat} (O : TopOk K p loose mean mg mb g₀) (W : ClsOk K) (IH : ∀ k ≤ n, All prog w K g₀ k) :
    ∀ d c fr m N e ie, CxOk c → cE K N c.locs c.sc e = some ie → Sub prog w VR g₀ c fr d m (eval e c.env) (fun σ => evE K (cF K) (n + 1) d m ie σ) := by
  intro d c fr m N e ie C h
  have A := IH n (Nat.le_refl n)
  cases N with
  | zero => simp [cE] at h
  | succ N =>
    intro σ r σ' g mm s Q E hx st fin
    dsimp only at hx
    unfold cE at h
    split at h
    · -- Constant
      simp only [Option.map_eq_some_iff] at h
      obtain ⟨v, hv, rfl⟩ := h
      rw [evE_const] at hx
      exact sub_const hv _ _ hx st fin
    · exact name_ok O C h hx st fin
    · -- and
      rename_i es pos
      split at h
      · cases h
      rename_i hne
      simp only [Option.map_eq_some_iff] at h
      obtain ⟨ies, h, rfl⟩ := h
      rw [evE_and] at hx
      cases es with
      | nil => exact absurd rfl hne
      | cons e es => exact A.bo d c fr m N .And pos e es ies C h hx st fin
    · -- or
      rename_i es pos
      split at h
      · cases h
      rename_i hne
      simp only [Option.map_eq_some_iff] at h
      obtain ⟨ies, h, rfl⟩ := h
      rw [evE_or] at hx
      cases es with
      | nil => exact absurd rfl hne
      | cons e es => exact A.bo d c fr m N .Or pos e es ies C h hx st fin
    · -- not
      rename_i x pos
      simp only [Option.map_eq_some_iff] at h
      obtain ⟨ie, h, rfl⟩ := h
      rw [evE_not] at hx
      obtain ⟨k, rfl, hx'⟩ := evT_bnd hx
      exact sub_not ((IH k (by omega)).e d c fr m N x ie C h) hx' st fin
    · -- -k
      cases h
      rw [evE_const] at hx
      exact sub_neg hx st fin
    · -- ite
      rename_i t a b pos
      simp only [Option.bind_eq_some_iff, Option.map_eq_some_iff] at h
      obtain ⟨it, h1, ia, h2, ib, h3, rfl⟩ := h
      rw [evE_ite] at hx
      exact sub_ite (A.t d c fr m N t it C h1) (A.e d c fr m N a ia C h2) (A.e d c fr m N b ib C h3) hx st fin
    · -- bin
      rename_i l op r' pos
      simp only [Option.bind_eq_some_iff, Option.map_eq_some_iff] at h
      obtain ⟨k, hk, ia, h1, ib, h2, rfl⟩ := h
      rw [evE_bin] at hx
      exact sub_bin (A.e d c fr m N l ia C h1) (A.e d c fr m N r' ib C h2) hk hx st fin
    · -- cmp
      rename_i l op r' pos
      simp only [Option.bind_eq_some_iff, Option.map_eq_some_iff] at h
      obtain ⟨k, hk, ia, h1, ib, h2, rfl⟩ := h
      rw [evE_cmp] at hx
      exact sub_cmp O.X (A.e d c fr m N l ia C h1) (A.e d c fr m N r' ib C h2) hk ((cE_plain h2).2 _) hx st fin
    · -- cmp2
      rename_i l op op' r' r'' pos
      simp only [Option.bind_eq_some_iff, Option.map_eq_some_iff] at h
      obtain ⟨k, hk, k', hk', ia, h1, ib, h2, ic, h3, rfl⟩ := h
      rw [evE_cmp2] at hx
      exact sub_cmp2 O.X (A.e d c fr m N l ia C h1) (A.e d c fr m N r' ib C h2) (A.e d c fr m N r'' ic C h3) hk hk' ((cE_plain h3).2 _) hx st fin
    · -- meth
      rename_i o name apos as pos
      split at h
      · rename_i hc
        simp only [Option.bind_eq_some_iff, Option.map_eq_some_iff] at h
        obtain ⟨k, hk, io, h1, ias, h2, rfl⟩ := h
        rw [evE_meth] at hx
        exact sub_meth O.X hc (cEs_plain h2) hk (A.e d c fr m N o io C h1) (A.es d c fr m N pos as ias C h2) (A.fn d c fr m C) (by cases k <;> exact hx) st fin
      · cases h
    · -- call
      rename_i f np as pos
      simp only [Option.bind_eq_some_iff, Option.map_eq_some_iff] at h
      obtain ⟨jf, h1, ias, h2, rfl⟩ := h
      rw [evE_call] at hx
      cases n with
      | zero => simp [evE_0] at hx
      | succ n =>
        exact sub_call (cEs_plain h2) (A.e d c fr m 1 (.Name f np) jf C (by simpa only [cE] using h1)) (A.es d c fr m N pos as ias C h2) (call_ok O W C ((IH n (by omega)).fn d c fr m C)) hx st fin
    · -- attribute
      rename_i o name pos
      split at h
      · cases h
      · rename_i hn
        have hn : isName o = true := by simpa using hn
        split at h
        · rename_i e; subst e
          simp only [Option.map_eq_some_iff] at h
          obtain ⟨io, h1, rfl⟩ := h
          rw [evE_at] at hx
          exact sub_at O.X W.wire hn (A.e d c fr m N o io C h1) hx st fin
        · split at h
          · rename_i e; subst e
            simp only [Option.map_eq_some_iff] at h
            obtain ⟨io, h1, rfl⟩ := h
            rw [evE_data] at hx
            exact sub_data O.X W.wire hn (A.e d c fr m N o io C h1) hx st fin
          · cases h
    · -- slice
      rename_i o lo hi pos' pos
      simp only [Option.bind_eq_some_iff, Option.map_eq_some_iff] at h
      obtain ⟨io, h1, il, h2, ih, h3, rfl⟩ := h
      rw [evE_slice] at hx
      exact sub_slice (A.e d c fr m N o io C h1) (A.o d c fr m N lo il C h2) (A.o d c fr m N hi ih C h3) hx st fin
    · -- sub
      rename_i o i pos _
      simp only [Option.bind_eq_some_iff, Option.map_eq_some_iff] at h
      obtain ⟨io, h1, ii, h2, rfl⟩ := h
      rw [evE_sub] at hx
      exact sub_sub O.X (A.e d c fr m N o io C h1) (A.e d c fr m N i ii C h2) hx st fin
    · -- tuple
      rename_i es k pos
      simp only [Option.map_eq_some_iff] at h
      obtain ⟨ies, h, rfl⟩ := h
      rw [evE_tup] at hx
      exact sub_tup (A.es d c fr m N pos es ies C h) hx st fin
    · -- list
      rename_i es pos
      simp only [Option.map_eq_some_iff] at h
      obtain ⟨ies, h, rfl⟩ := h
      rw [evE_list] at hx
      exact sub_list (A.es d c fr m N pos es ies C h) hx st fin
    · -- comprehension
      rename_i elt x px iter csc pos
      split at h
      · cases h
      · rename_i hc
        have hc : compOk csc x = true := by simpa using hc
        simp only [Option.bind_eq_some_iff, Option.map_eq_some_iff] at h
        obtain ⟨ii, h1, iel, h2, rfl⟩ := h
        rw [evE_comp] at hx
        exact sub_comp O.X C hc (cE_fold h1 c.env) ⟨fun L fr' m k hk => (IH k (by omega)).e d (compCx c csc L x) fr' m N elt iel (compCx_ok C hc) h2, .inl ⟨rfl, rfl⟩⟩ (A.e d c fr m N iter ii C h1) hx st fin
    · -- comprehension with a test
      rename_i elt x px iter t csc pos
      split at h
      · cases h
      · rename_i hc
        have hc : compOk csc x = true := by simpa using hc
        simp only [Option.bind_eq_some_iff, Option.map_eq_some_iff] at h
        obtain ⟨ii, h1, iel, h2, it, h3, rfl⟩ := h
        rw [evE_comp] at hx
        exact sub_comp O.X C hc (cE_fold h1 c.env) ⟨fun L fr' m k hk => (IH k (by omega)).e d (compCx c csc L x) fr' m N elt iel (compCx_ok C hc) h2, .inr ⟨t, it, rfl, rfl, fun L fr' m k hk => (IH k (by omega)).t d (compCx c csc L x) fr' m N t it (compCx_ok C hc) h3⟩⟩ (A.e d c fr m N iter ii C h1) hx st fin
    · cases h
end
end Mine
end

section
open PySem PySem.W PySem.Calls PyProof.Rows
set_option maxRecDepth 100000
namespace Mine

section
variable {prog : Program} {w : World} {K : Frag} {p : Program} {loose : List Str} {mean : ExcName → Option Value} {mg mb : Str → Option Value} {g₀ : Heap}

theorem evT_some {n d : Nat} {m : Lo} {e : IE} {σ : List TO} {r : Ex Bool} {σ' : List TO} (h : evT K (cF K) n d m e σ = some (r, σ')) : ∃ k, n = k + 1 ∧ bnd (evE K (cF K) k d m e σ) asB = some (r, σ') := by
  cases n with
  | zero => simp [evT_0] at h
  | succ k => rw [evT_asB] at h; exact ⟨k, rfl, h⟩
theorem evE_some {n d : Nat} {m : Lo} {e : IE} {σ : List TO} {r : R AV} {f : AV → List TO → R Bool} {x : Ex Bool} {σ' : List TO} (h : bnd (evE K (cF K) n d m e σ) f = some (x, σ')) : ∃ k, n = k + 1 := by
  cases n with
  | zero => simp [evE_0] at h
  | succ k => exact ⟨k, rfl⟩

theorem opt_bool {x : Option Bool} {σ σ' : List TO} {r : Ex Bool} (h : bnd (opt (x.map AV.bool) σ) asB = some (r, σ')) : opt x σ = some (r, σ') := by
  cases x with
  | none => simp at h
  | some b => exact h
theorem ret_bool {b : Bool} {σ : List TO} : bnd (ret (AV.bool b) σ) asB = ret b σ := rfl
theorem bnd_assoc {α β γ : Type} {x : R α} {f : α → List TO → R β} {k : β → List TO → R γ} : bnd (bnd x f) k = bnd x fun a σ => bnd (f a σ) k := by
  cases x with
  | none => rfl
  | some q => obtain ⟨a, σ⟩ := q; cases a <;> rfl

theorem all_t {n : Nat} (O : TopOk K p loose mean mg mb g₀) (IH : ∀ k ≤ n, All prog w K g₀ k) :
    ∀ d c fr m N e ie, CxOk c → cE K N c.locs c.sc e = some ie → Sub prog w BR g₀ c fr d m (isTrue e c.env (eval e c.env)) (fun σ => evT K (cF K) (n + 1) d m ie σ) := by
  intro d c fr m N e ie C h
  have A := IH n (Nat.le_refl n)
  -- by its value
  have byV : isTrue e c.env (eval e c.env) = (do let v ← eval e c.env; standAt e.pos; holding [v] (truthy v)) → Sub prog w BR g₀ c fr d m (isTrue e c.env (eval e c.env)) (fun σ => evT K (cF K) (n + 1) d m ie σ) := fun he => by
    intro σ r σ' g mm s Q E hx st fin
    dsimp only at hx
    rw [evT_asB] at hx
    exact test_value (A.e d c fr m N e ie C h) he hx st fin
  cases N with
  | zero => simp [cE] at h
  | succ N =>
    have h0 := h
    unfold cE at h
    split at h
    · exact @byV rfl
    · exact @byV rfl
    · -- and
      rename_i es pos
      split at h
      · cases h
      simp only [Option.map_eq_some_iff] at h
      obtain ⟨ies, h, rfl⟩ := h
      intro σ r σ' g mm s Q E hx st fin
      dsimp only at hx
      rw [evT_asB] at hx
      cases n with
      | zero => simp [evE_0] at hx
      | succ n =>
        rw [evE_and, bnd_assoc] at hx
        refine test_bool ((IH n (by omega)).al d c fr m N .And es ies C h) ?_ st fin
        dsimp only
        rw [show (BoolOp.And == BoolOp.And) = true from rfl]
        cases hz : evAll K (cF K) n d m true ies σ with
        | none => rw [hz] at hx; cases hx
        | some q => obtain ⟨q, σ1⟩ := q; rw [hz] at hx; cases q <;> exact hx
    · -- or
      rename_i es pos
      split at h
      · cases h
      simp only [Option.map_eq_some_iff] at h
      obtain ⟨ies, h, rfl⟩ := h
      intro σ r σ' g mm s Q E hx st fin
      dsimp only at hx
      rw [evT_asB] at hx
      cases n with
      | zero => simp [evE_0] at hx
      | succ n =>
        rw [evE_or, bnd_assoc] at hx
        refine test_bool ((IH n (by omega)).al d c fr m N .Or es ies C h) ?_ st fin
        dsimp only
        rw [show (BoolOp.Or == BoolOp.And) = false from rfl]
        cases hz : evAll K (cF K) n d m false ies σ with
        | none => rw [hz] at hx; cases hx
        | some q => obtain ⟨q, σ1⟩ := q; rw [hz] at hx; cases q <;> exact hx
    · -- not
      rename_i x pos
      simp only [Option.map_eq_some_iff] at h
      obtain ⟨ie, h, rfl⟩ := h
      intro σ r σ' g mm s Q E hx st fin
      dsimp only at hx
      rw [evT_asB] at hx
      cases n with
      | zero => simp [evE_0] at hx
      | succ n =>
        rw [evE_not, bnd_assoc] at hx
        exact test_not ((IH n (by omega)).t d c fr m N x ie C h) hx st fin
    · cases h
      exact @byV rfl
    · -- ite
      rename_i t a b pos
      simp only [Option.bind_eq_some_iff, Option.map_eq_some_iff] at h
      obtain ⟨it, h1, ia, h2, ib, h3, rfl⟩ := h
      intro σ r σ' g mm s Q E hx st fin
      dsimp only at hx
      rw [evT_asB] at hx
      cases n with
      | zero => simp [evE_0] at hx
      | succ n =>
        rw [evE_ite, bnd_assoc] at hx
        refine test_ite ((IH n (by omega)).t d c fr m N t it C h1) ((IH (n + 1) (by omega)).t d c fr m N a ia C h2) ((IH (n + 1) (by omega)).t d c fr m N b ib C h3) ?_ st fin
        dsimp only
        cases hz : evT K (cF K) n d m it σ with
        | none => rw [hz] at hx; cases hx
        | some q =>
          obtain ⟨q, σ1⟩ := q
          rw [hz] at hx
          cases q with
          | exc i => exact hx
          | ok t =>
            simp only [bnd] at hx ⊢
            rw [evT_asB, evT_asB]
            cases t <;> exact hx
    · exact @byV rfl
    · -- cmp
      rename_i l op r' pos
      simp only [Option.bind_eq_some_iff, Option.map_eq_some_iff] at h
      obtain ⟨k, hk, ia, h1, ib, h2, rfl⟩ := h
      intro σ r σ' g mm s Q E hx st fin
      dsimp only at hx
      rw [evT_asB] at hx
      cases n with
      | zero => simp [evE_0] at hx
      | succ n =>
        rw [evE_cmp, bnd_assoc] at hx
        refine test_cmp O.X ((IH n (by omega)).e d c fr m N l ia C h1) ((IH n (by omega)).e d c fr m N r' ib C h2) hk ((cE_plain h2).2 _) ?_ st fin
        dsimp only
        cases hz : evE K (cF K) n d m ia σ with
        | none => rw [hz] at hx; cases hx
        | some q =>
          obtain ⟨q, σ1⟩ := q
          rw [hz] at hx
          cases q with
          | exc i => exact hx
          | ok a =>
            simp only [bnd] at hx ⊢
            cases hz2 : evE K (cF K) n d m ib σ1 with
            | none => rw [hz2] at hx; cases hx
            | some q =>
              obtain ⟨q, σ2⟩ := q
              rw [hz2] at hx
              cases q with
              | exc i => exact hx
              | ok b => exact opt_bool hx
    · -- cmp2
      rename_i l op op' r' r'' pos
      simp only [Option.bind_eq_some_iff, Option.map_eq_some_iff] at h
      obtain ⟨k, hk, k', hk', ia, h1, ib, h2, ic, h3, rfl⟩ := h
      intro σ r σ' g mm s Q E hx st fin
      dsimp only at hx
      rw [evT_asB] at hx
      cases n with
      | zero => simp [evE_0] at hx
      | succ n =>
        rw [evE_cmp2, bnd_assoc] at hx
        refine test_cmp2 O.X ((IH n (by omega)).e d c fr m N l ia C h1) ((IH n (by omega)).e d c fr m N r' ib C h2) ((IH n (by omega)).e d c fr m N r'' ic C h3) hk hk' ((cE_plain h3).2 _) ?_ st fin
        dsimp only
        cases hz : evE K (cF K) n d m ia σ with
        | none => rw [hz] at hx; cases hx
        | some q =>
          obtain ⟨q, σ1⟩ := q
          rw [hz] at hx
          cases q with
          | exc i => exact hx
          | ok a =>
            simp only [bnd] at hx ⊢
            cases hz2 : evE K (cF K) n d m ib σ1 with
            | none => rw [hz2] at hx; cases hx
            | some q =>
              obtain ⟨q, σ2⟩ := q
              rw [hz2] at hx
              cases q with
              | exc i => exact hx
              | ok b =>
                dsimp only at hx ⊢
                cases hc : cmpA K σ2 k a b with
                | none => rw [hc] at hx; cases hx
                | some y =>
                  rw [hc] at hx
                  cases y with
                  | false => exact hx
                  | true =>
                    dsimp only at hx ⊢
                    cases hz3 : evE K (cF K) n d m ic σ2 with
                    | none => rw [hz3] at hx; cases hx
                    | some q =>
                      obtain ⟨q, σ3⟩ := q
                      rw [hz3] at hx
                      cases q with
                      | exc i => exact hx
                      | ok b => exact opt_bool hx
    all_goals first | exact @byV rfl | cases h
end
end Mine
end

section
open PySem PySem.W PySem.Calls PyProof.Rows
set_option maxRecDepth 100000
namespace Mine

section
variable {prog : Program} {w : World} {K : Frag} {p : Program} {loose : List Str} {mean : ExcName → Option Value} {mg mb : Str → Option Value} {g₀ : Heap}

theorem all_ss {n : Nat} (A : All prog w K g₀ n) : ∀ d c fr N l il, CxOk c → Top1 c → cSs K N c.locs c.sc l = some il → SubS prog w g₀ c fr d (execs l c.env) (fun m σ => evSs K (cF K) (n + 1) d il m σ) := by
  intro d c fr N l il C T h m σ r g mm s Q E hx st fin
  dsimp only at hx
  cases N with
  | zero => simp [cSs] at h
  | succ N =>
    cases l with
    | nil =>
      simp only [cSs] at h; cases h
      simp only [evSs_nil] at hx
      exact subS_nil hx st fin
    | cons a l =>
      simp only [cSs, Option.bind_eq_some_iff, Option.map_eq_some_iff] at h
      obtain ⟨ia, h1, il', h2, rfl⟩ := h
      rw [evSs_cons] at hx
      exact subS_cons (A.s d c fr N a ia C T h1) (A.ss d c fr N l il' C T h2) hx st fin

theorem not_comp {e : Expr} (h : ∀ elt gens csc q, e = .ListComp elt gens csc q → False) : isComp e = false := by
  cases e <;> first | rfl | exact (h _ _ _ _ rfl).elim

theorem cE_swaps_attr {n : Nat} {locs : List Str} {sc : Scope} {e : Expr} {ie : IE} (h : cE K n locs sc e = some ie) : ∀ o a q line env, swapsWith e (some (.Attribute o a q)) line env = pure false := by
  cases n with
  | zero => simp [cE] at h
  | succ n => cases e <;> first | exact fun _ _ _ _ _ => rfl | (exfalso; simp [cE] at h; done)

theorem cE_swaps_none {n : Nat} {locs : List Str} {sc : Scope} {e : Expr} {ie : IE} (h : cE K n locs sc e = some ie) (hc : isComp e = false) : ∀ line env, swapsWith e none line env = pure false := by
  cases n with
  | zero => simp [cE] at h
  | succ n => cases e <;> first | exact fun _ _ => rfl | (exfalso; simp [cE] at h; done) | cases hc

theorem cEs_len {n : Nat} {locs : List Str} {sc : Scope} : ∀ {es : List Expr} {ies : List IE}, cEs K n locs sc es = some ies → es.length < n := by
  induction n with
  | zero => intro es ies h; simp [cEs] at h
  | succ n ih =>
    intro es ies h
    cases es with
    | nil => simp
    | cons e es =>
      simp only [cEs, Option.bind_eq_some_iff, Option.map_eq_some_iff] at h
      obtain ⟨ia, h1, il', h2, rfl⟩ := h
      have := ih h2
      simp only [List.length_cons]; omega

theorem swOk_len {sc : Scope} {ts es : List Expr} (h : swOk sc ts es = true) : es.length ≤ 100 := by
  unfold swOk at h
  simp only [Bool.and_eq_true, beq_iff_eq, Bool.or_eq_true] at h
  obtain ⟨⟨⟨⟨⟨h1, h2⟩, _⟩, _⟩, _⟩, _⟩ := h
  omega

theorem all_s {n : Nat} (O : TopOk K p loose mean mg mb g₀) (W : ClsOk K) (WE : ExcAll K) (IH : ∀ k ≤ n, All prog w K g₀ k) : ∀ d c fr N st is, CxOk c → Top1 c → cS K N c.locs c.sc st = some is → SubS prog w g₀ c fr d (exec st c.env) (fun m σ => evS K (cF K) (n + 1) d is m σ) := by
  intro d c fr N st is C T h m σ r g mm s Q E hx stt fin
  dsimp only at hx
  have A := IH n (Nat.le_refl n)
  cases N with
  | zero => simp [cS] at h
  | succ N =>
    unfold cS at h
    split at h
    · -- x = [..]
      rename_i x px elt gens csc q pos
      split at h
      · rename_i hsw
        simp only [Option.bind_eq_some_iff] at h
        obtain ⟨k, hk, e, he, h⟩ := h
        split at h
        · rename_i ii iel it
          cases h
          obtain ⟨h1, h2⟩ := locIx_some hk
          rw [evS_asgC] at hx
          cases N with
          | zero => simp [cE] at he
          | succ N =>
            unfold cE at he
            split at he
            all_goals (try (cases he; done))
            all_goals try (rename_i heq; cases heq; done)
            · -- without a test
              rename_i elt' y py iter csc' pos' heq
              cases heq
              split at he
              · cases he
              · rename_i hc
                have hc : compOk csc y = true := by simpa using hc
                simp only [Option.bind_eq_some_iff, Option.map_eq_some_iff] at he
                obtain ⟨i1, h3, el1, h4, e⟩ := he
                cases e
                cases n with
                | zero => simp [evE_0] at hx
                | succ n =>
                  rw [evE_comp] at hx
                  exact subS_asgC O.X C h1 h2 hsw hc (cE_fold h3 c.env) ⟨fun L fr' m k hk => (IH k (by omega)).e d (compCx c csc L y) fr' m N elt iel (compCx_ok C hc) h4, .inl ⟨rfl, rfl⟩⟩ (fun m => (IH n (by omega)).e d c fr m N iter ii C h3) hx stt fin
            · -- with a test
              rename_i elt' y py iter t csc' pos' heq
              cases heq
              split at he
              · cases he
              · rename_i hc
                have hc : compOk csc y = true := by simpa using hc
                simp only [Option.bind_eq_some_iff, Option.map_eq_some_iff] at he
                obtain ⟨i1, h3, el1, h4, it1, h5, e⟩ := he
                cases e
                cases n with
                | zero => simp [evE_0] at hx
                | succ n =>
                  rw [evE_comp] at hx
                  exact subS_asgC O.X C h1 h2 hsw hc (cE_fold h3 c.env) ⟨fun L fr' m k hk => (IH k (by omega)).e d (compCx c csc L y) fr' m N elt iel (compCx_ok C hc) h4, .inr ⟨t, it1, rfl, rfl, fun L fr' m k hk => (IH k (by omega)).t d (compCx c csc L y) fr' m N t it1 (compCx_ok C hc) h5⟩⟩ (fun m => (IH n (by omega)).e d c fr m N iter ii C h3) hx stt fin
        · cases h
      · cases h
    · -- x = e
      rename_i x px e pos hne
      simp only [Option.bind_eq_some_iff, Option.map_eq_some_iff] at h
      obtain ⟨k, hk, ie, he, rfl⟩ := h
      obtain ⟨h1, h2⟩ := locIx_some hk
      rw [evS_asg] at hx
      exact subS_asg C h1 h2 (cE_swaps he (not_comp fun elt gens csc q e => hne _ _ _ _ e) _ _ _) (fun m => A.e d c fr m N e ie C he) hx stt fin
    · -- o.at = e
      rename_i o a pa e pos
      split at h
      · rename_i e1
        subst e1
        simp only [Option.bind_eq_some_iff, Option.map_eq_some_iff] at h
        obtain ⟨io, ho, ie, he, rfl⟩ := h
        rw [evS_asgAt] at hx
        exact subS_asgAt O.X W (cE_swaps_attr he _ _ _ _ _) (fun m => A.e d c fr m N o io C ho) (fun m => A.e d c fr m N e ie C he) hx stt fin
      · cases h
    · -- ts = es
      rename_i ts k1 p1 es k2 p2 pos
      split at h
      · cases h
      · rename_i hw
        have hw : swOk c.sc ts es = true := by simpa using hw
        simp only [Option.bind_eq_some_iff, Option.map_eq_some_iff] at h
        obtain ⟨ks, hks, ies, he, rfl⟩ := h
        rw [evS_asgT] at hx
        exact subS_asgT C hw (cEs_length he) hks (swOk_len hw) (fun m => A.es d c fr m N p2 es ies C he) hx stt fin
    · -- e
      rename_i e pos
      split at h
      · cases h
      · rename_i hc
        have hc : isComp e = false := by simpa using hc
        simp only [Option.map_eq_some_iff] at h
        obtain ⟨ie, he, rfl⟩ := h
        rw [evS_expr] at hx
        exact subS_expr C (cE_swaps_none he hc _ _) (fun m => A.e d c fr m N e ie C he) hx stt fin
    · -- return
      rename_i e pos
      simp only [Option.map_eq_some_iff] at h
      obtain ⟨ie, he, rfl⟩ := h
      rw [evS_ret] at hx
      exact subS_ret (fun m => A.e d c fr m N e ie C he) hx stt fin
    · -- if
      rename_i t a b pos
      simp only [Option.bind_eq_some_iff, Option.map_eq_some_iff] at h
      obtain ⟨it, h1, ia, h2, ib, h3, rfl⟩ := h
      rw [evS_ite] at hx
      exact subS_ite (fun m => A.t d c fr m N t it C h1) (A.ss d c fr N a ia C T h2) (A.ss d c fr N b ib C T h3) hx stt fin
    · -- while
      rename_i t b pos
      simp only [Option.bind_eq_some_iff, Option.map_eq_some_iff] at h
      obtain ⟨it, h1, ib, h2, rfl⟩ := h
      exact subS_while (N := n + 1) (fun k hk m => (IH k (by omega)).t d c fr m N t it C h1) (fun k hk => (IH k (by omega)).ss d c fr N b ib C T h2) hx stt fin
    · -- for over a range
      rename_i x px rn pr hi cpos b pos
      split at h
      · rename_i hr
        simp only [Option.bind_eq_some_iff, Option.map_eq_some_iff] at h
        obtain ⟨k, hk, ih, h1, ib, h2, rfl⟩ := h
        rw [evS_range] at hx
        exact subS_forRange O C hk hr.2.1 (by rw [hr.1]; decide) hr.2.2 (fun env => (cE_plain h1).1 [] env) T (fun m => A.e d c fr m N hi ih C h1) (fun k hk fr' => (IH k (by omega)).ss d c fr' N b ib C T h2) hx stt fin
      · cases h
    · -- for
      rename_i x px it b pos _
      simp only [Option.bind_eq_some_iff, Option.map_eq_some_iff] at h
      obtain ⟨k, hk, ii, h1, ib, h2, rfl⟩ := h
      rw [evS_for] at hx
      exact subS_for O.X C (.name hk) T (cE_fold h1 c.env) (fun m => A.e d c fr m N it ii C h1) (fun k hk fr' => (IH k (by omega)).ss d c fr' N b ib C T h2) hx stt fin
    · -- for a tuple
      rename_i ts k1 p1 it b pos
      split at h
      · cases h
      rename_i hlen
      simp only [Option.bind_eq_some_iff, Option.map_eq_some_iff] at h
      obtain ⟨ks, hk, ii, h1, ib, h2, rfl⟩ := h
      rw [evS_for] at hx
      have hks : ks.length ≠ 1 := by
        obtain ⟨ps, rfl, _, rfl⟩ := targets_are hk
        simpa using hlen
      exact subS_for O.X C (.tup hk hks) T (cE_fold h1 c.env) (fun m => A.e d c fr m N it ii C h1) (fun k hk fr' => (IH k (by omega)).ss d c fr' N b ib C T h2) hx stt fin
    · -- raise
      rename_i e pos
      simp only [Option.map_eq_some_iff] at h
      obtain ⟨ie, he, rfl⟩ := h
      rw [evS_raise] at hx
      exact subS_raise O.X W C (fun m => A.e d c fr m N e ie C he) hx stt fin
    · -- try
      rename_i b hs pos
      split at h
      · cases h
      rename_i hne
      simp only [Option.bind_eq_some_iff, Option.map_eq_some_iff] at h
      obtain ⟨ib, h1, ihs, h2, rfl⟩ := h
      rw [evS_try] at hx
      cases hs with
      | nil => exact absurd rfl hne
      | cons h0 hs => exact subS_try O WE C T h2 (A.ss d c fr N b ib C T h1) hx stt fin
    · cases h
end
end Mine
end

section
open PySem PySem.W PySem.Calls PyProof.Rows
set_option maxRecDepth 100000
namespace Mine

section
variable {prog : Program} {w : World} {K : Frag} {p : Program} {loose : List Str} {mean : ExcName → Option Value} {mg mb : Str → Option Value} {g₀ : Heap}

theorem all (O : TopOk K p loose mean mg mb g₀) (W : ClsOk K) (WE : ExcAll K) : ∀ n, ∀ k ≤ n, All prog w K g₀ k := by
  intro n
  induction n with
  | zero =>
    intro k hk
    obtain rfl : k = 0 := by omega
    exact all_zero
  | succ n IH =>
    intro k hk
    rcases Nat.lt_or_ge k (n + 1) with h | h
    · exact IH k (by omega)
    · obtain rfl : k = n + 1 := by omega
      have A := IH n (Nat.le_refl n)
      exact ⟨all_e O W IH, all_t O IH, all_al A, all_bo IH, all_es A, all_o A, all_fn O A, all_s O W WE IH, all_ss A⟩
end
end Mine
end

section
open PySem PySem.W PyProof.Rows
set_option maxRecDepth 100000
set_option maxHeartbeats 4000000
set_option linter.unusedSimpArgs false
namespace Mine
noncomputable abbrev KP (P : Params) : Frag := grab.heap_1 P
theorem ofString_inj (a b : String) : (Str.ofString a = Str.ofString b) = (a = b) := by
  refine propext ⟨fun h => ?_, fun h => by rw [h]⟩
  rw [Str.ofString_eq_toList, Str.ofString_eq_toList] at h
  injection h with h
  have h := congrArg Array.toList h
  simp only at h
  have inj : ∀ l l' : List Char, l.map Char.toNat = l'.map Char.toNat → l = l' := by
    intro l
    induction l with
    | nil => intro l' h; cases l' with
      | nil => rfl
      | cons _ _ => simp at h
    | cons x l ih => intro l' h; cases l' with
      | nil => simp at h
      | cons y l' =>
        simp only [List.map_cons, List.cons.injEq] at h
        rw [ih l' h.2, Char.toNat_inj.mp h.1]
  have := inj _ _ h
  exact String.toList_inj.mp this
theorem ofString_beq (a b : String) : (Str.ofString a == Str.ofString b) = (a == b) := by
  rw [Bool.eq_iff_iff, beq_iff_eq, beq_iff_eq, ofString_inj]
theorem fx_cons (x y : String) (l : List Str) : List.findIdx? (fun z => z == Str.ofString x) (Str.ofString y :: l) = if (y == x) = true then some 0 else (List.findIdx? (fun z => z == Str.ofString x) l).map (· + 1) := by
  rw [List.findIdx?_cons, ofString_beq]
theorem lk_cons {β : Type} (x y : String) (b : β) (l : List (Str × β)) : List.lookup (Str.ofString x) ((Str.ofString y, b) :: l) = if (x == y) = true then some b else List.lookup (Str.ofString x) l := by
  rw [List.lookup_cons, ofString_beq]; cases x == y <;> rfl
theorem g_chr (P : Params) : globV (KP P) (Str.ofString "chr") = some (.builtin "chr") := by kernel_rfl
theorem g_lower_code (P : Params) : globV (KP P) (Str.ofString "lower_code") = some (.ref 92) := by kernel_rfl
theorem g_ord (P : Params) : globV (KP P) (Str.ofString "ord") = some (.builtin "ord") := by kernel_rfl
theorem g_range (P : Params) : globV (KP P) (Str.ofString "range") = some (.type "range") := by kernel_rfl
theorem g_len (P : Params) : globV (KP P) (Str.ofString "len") = some (.builtin "len") := by kernel_rfl
theorem g_WordFault (P : Params) : globV (KP P) (Str.ofString "WordFault") = some (.ref 59) := by kernel_rfl
theorem g_is_leap (P : Params) : globV (KP P) (Str.ofString "is_leap") = some (.ref 120) := by kernel_rfl
theorem g_MOST_YEAR (P : Params) : globV (KP P) (Str.ofString "MOST_YEAR") = some (.int 9999 334) := by kernel_rfl
theorem g_month_length (P : Params) : globV (KP P) (Str.ofString "month_length") = some (.ref 127) := by kernel_rfl
theorem g_is_figures (P : Params) : globV (KP P) (Str.ofString "is_figures") = some (.ref 144) := by kernel_rfl
theorem g_int (P : Params) : globV (KP P) (Str.ofString "int") = some (.type "int") := by kernel_rfl
theorem g_is_day (P : Params) : globV (KP P) (Str.ofString "is_day") = some (.ref 134) := by kernel_rfl
theorem g_month_number (P : Params) : globV (KP P) (Str.ofString "month_number") = some (.ref 139) := by kernel_rfl
theorem g_MONTHS (P : Params) : globV (KP P) (Str.ofString "MONTHS") = some (.ref 113) := by kernel_rfl
theorem g_lower_text (P : Params) : globV (KP P) (Str.ofString "lower_text") = some (.ref 102) := by kernel_rfl
theorem g_day_in (P : Params) : globV (KP P) (Str.ofString "day_in") = some (.ref 151) := by kernel_rfl
theorem g_read_day (P : Params) : globV (KP P) (Str.ofString "read_day") = some (.ref 158) := by kernel_rfl
theorem g_ascii_text (P : Params) : globV (KP P) (Str.ofString "ascii_text") = some (.ref 112) := by kernel_rfl
theorem g_QueryFault (P : Params) : globV (KP P) (Str.ofString "QueryFault") = some (.ref 83) := by kernel_rfl
theorem g_WireFault (P : Params) : globV (KP P) (Str.ofString "WireFault") = some (.ref 71) := by kernel_rfl
theorem g_QUOTE (P : Params) : globV (KP P) (Str.ofString "QUOTE") = some (.int 34 402) := by kernel_rfl
theorem g_BACKSLASH (P : Params) : globV (KP P) (Str.ofString "BACKSLASH") = some (.int 92 404) := by kernel_rfl
theorem g_CRLF (P : Params) : globV (KP P) (Str.ofString "CRLF") = some (.bytes #[13, 10] 286) := by kernel_rfl
theorem g_SPECIALS (P : Params) : globV (KP P) (Str.ofString "SPECIALS") = some (.bytes #[40, 41, 123, 37, 42, 34, 92, 93] 412) := by kernel_rfl
theorem g_MOST_COUNT_FIGURES (P : Params) : globV (KP P) (Str.ofString "MOST_COUNT_FIGURES") = some (.int 10 410) := by kernel_rfl
theorem g_is_printable (P : Params) : globV (KP P) (Str.ofString "is_printable") = some (.ref 200) := by kernel_rfl
theorem g_is_atom_code (P : Params) : globV (KP P) (Str.ofString "is_atom_code") = some (.ref 207) := by kernel_rfl
theorem g_is_astring_code (P : Params) : globV (KP P) (Str.ofString "is_astring_code") = some (.ref 214) := by kernel_rfl
theorem g_is_figure (P : Params) : globV (KP P) (Str.ofString "is_figure") = some (.ref 228) := by kernel_rfl
theorem g_number_of_figures (P : Params) : globV (KP P) (Str.ofString "number_of_figures") = some (.ref 235) := by kernel_rfl
theorem g_bytes (P : Params) : globV (KP P) (Str.ofString "bytes") = some (.type "bytes") := by kernel_rfl
theorem g_bytearray (P : Params) : globV (KP P) (Str.ofString "bytearray") = some (.type "bytearray") := by kernel_rfl
theorem g_Wire (P : Params) : globV (KP P) (Str.ofString "Wire") = some (.ref 420) := by kernel_rfl
theorem g_law_months (P : Params) : globV (KP P) (Str.ofString "_law_months") = some (.ref 425) := by kernel_rfl
theorem g_law_years (P : Params) : globV (KP P) (Str.ofString "_law_years") = some (.ref 426) := by kernel_rfl
theorem g_law_table (P : Params) : globV (KP P) (Str.ofString "_law_table") = some (.ref 447) := by kernel_rfl
theorem g_law_pick (P : Params) : globV (KP P) (Str.ofString "_law_pick") = some (.ref 454) := by kernel_rfl
theorem g_law_long (P : Params) : globV (KP P) (Str.ofString "_law_long") = some (.ref 461) := by kernel_rfl
theorem g_law_due (P : Params) : globV (KP P) (Str.ofString "_law_due") = some (.ref 466) := by kernel_rfl
theorem g_law_heard (P : Params) : globV (KP P) (Str.ofString "_law_heard") = some (.ref 473) := by kernel_rfl
theorem g_law_is_right (P : Params) : globV (KP P) (Str.ofString "_law_is_right") = some (.ref 478) := by kernel_rfl
theorem g_day_here (P : Params) : globV (KP P) (Str.ofString "day_here") = some (.ref 165) := by kernel_rfl
theorem w_space (P : Params) : cMeth (KP P) (Str.ofString "space") = some (.own (Str.ofString "space") 285) := by kernel_rfl
theorem w_need (P : Params) : cMeth (KP P) (Str.ofString "need") = some (.own (Str.ofString "need") 278) := by kernel_rfl
theorem w_skip (P : Params) : cMeth (KP P) (Str.ofString "skip") = some (.own (Str.ofString "skip") 271) := by kernel_rfl
theorem w_fault (P : Params) : cMeth (KP P) (Str.ofString "fault") = some (.own (Str.ofString "fault") 257) := by kernel_rfl
theorem w_peek (P : Params) : cMeth (KP P) (Str.ofString "peek") = some (.own (Str.ofString "peek") 264) := by kernel_rfl
theorem w_astring (P : Params) : cMeth (KP P) (Str.ofString "astring") = some (.own (Str.ofString "astring") 383) := by kernel_rfl
theorem w_string_or (P : Params) : cMeth (KP P) (Str.ofString "string_or") = some (.own (Str.ofString "string_or") 376) := by kernel_rfl
theorem w_string (P : Params) : cMeth (KP P) (Str.ofString "string") = some (.own (Str.ofString "string") 369) := by kernel_rfl
theorem w_quoted (P : Params) : cMeth (KP P) (Str.ofString "quoted") = some (.own (Str.ofString "quoted") 355) := by kernel_rfl
theorem w_literal (P : Params) : cMeth (KP P) (Str.ofString "literal") = some (.own (Str.ofString "literal") 362) := by kernel_rfl
theorem w_run (P : Params) : cMeth (KP P) (Str.ofString "run") = some (.own (Str.ofString "run") 299) := by kernel_rfl
theorem w_split (P : Params) : cMeth (KP P) (Str.ofString "split") = some .split := by kernel_rfl
theorem w_lower (P : Params) : cMeth (KP P) (Str.ofString "lower") = some .lower := by kernel_rfl
theorem w_upper (P : Params) : cMeth (KP P) (Str.ofString "upper") = some .upper := by kernel_rfl
theorem w_pop (P : Params) : cMeth (KP P) (Str.ofString "pop") = some .pop := by kernel_rfl
theorem w_index (P : Params) : cMeth (KP P) (Str.ofString "index") = some .index := by kernel_rfl
theorem w_append (P : Params) : cMeth (KP P) (Str.ofString "append") = some .append := by kernel_rfl
theorem w_join (P : Params) : cMeth (KP P) (Str.ofString "join") = some .join := by kernel_rfl
theorem cp_0 : (Str.ofString "").cps.toList = [] := by decide +kernel
theorem cp_1 : (Str.ofString "-").cps.toList = [45] := by decide +kernel
theorem cp_2 : (Str.ofString "0").cps.toList = [48] := by decide +kernel
theorem cp_3 : (Str.ofString "9").cps.toList = [57] := by decide +kernel
theorem cp_4 : (Str.ofString "s").cps.toList = [115] := by decide +kernel
theorem cp_5 : (Str.ofString "0123456789").cps.toList = [48, 49, 50, 51, 52, 53, 54, 55, 56, 57] := by decide +kernel
theorem cp_6 : (Str.ofString "28").cps.toList = [50, 56] := by decide +kernel
theorem cp_7 : (Str.ofString "29").cps.toList = [50, 57] := by decide +kernel
theorem cp_8 : (Str.ofString "30").cps.toList = [51, 48] := by decide +kernel
theorem cp_9 : (Str.ofString "31").cps.toList = [51, 49] := by decide +kernel
theorem cp_10 : (Str.ofString "1").cps.toList = [49] := by decide +kernel
theorem cp_11 : (Str.ofString "09").cps.toList = [48, 57] := by decide +kernel
theorem cp_12 : (Str.ofString "32").cps.toList = [51, 50] := by decide +kernel
theorem cp_13 : (Str.ofString "007").cps.toList = [48, 48, 55] := by decide +kernel
theorem cp_14 : (Str.ofString "x").cps.toList = [120] := by decide +kernel

noncomputable def F92 : {f : Fn // ∀ P, cF (KP P) 92 = some f} := by
  refine ⟨?_, fun P => ?_⟩
  rotate_left
  · unfold cF
    rw [show (KP P).lookup 92 = some _ from by with_unfolding_all rfl]
    dsimp only
    rw [if_pos (by kernel_rfl)]
    simp [cSs, cS, cE, cEs, cO, cName, cConst, cBin, cCmp, ofString_inj, ofString_beq, fx_cons, lk_cons, locIx, cTargets, cSuite, cHandlers, swName, swOk, Expr.pos, foldedForSure, constantsAlone, isComp, isName, plainBase, compOk, toAV, cp_0, cp_1, cp_2, cp_3, cp_4, cp_5, cp_6, cp_7, cp_8, cp_9, cp_10, cp_11, cp_12, cp_13, cp_14, g_chr, g_lower_code, g_ord, g_range, g_len, g_WordFault, g_is_leap, g_MOST_YEAR, g_month_length, g_is_figures, g_int, g_is_day, g_month_number, g_MONTHS, g_lower_text, g_day_in, g_read_day, g_ascii_text, g_QueryFault, g_WireFault, g_QUOTE, g_BACKSLASH, g_CRLF, g_SPECIALS, g_MOST_COUNT_FIGURES, g_is_printable, g_is_atom_code, g_is_astring_code, g_is_figure, g_number_of_figures, g_bytes, g_bytearray, g_Wire, g_law_months, g_law_years, g_law_table, g_law_pick, g_law_long, g_law_due, g_law_heard, g_law_is_right, g_day_here, w_space, w_need, w_skip, w_fault, w_peek, w_astring, w_string_or, w_string, w_quoted, w_literal, w_run, w_split, w_lower, w_upper, w_pop, w_index, w_append, w_join]
    exact rfl

noncomputable def F102 : {f : Fn // ∀ P, cF (KP P) 102 = some f} := by
  refine ⟨?_, fun P => ?_⟩
  rotate_left
  · unfold cF
    rw [show (KP P).lookup 102 = some _ from by with_unfolding_all rfl]
    dsimp only
    rw [if_pos (by kernel_rfl)]
    simp [cSs, cS, cE, cEs, cO, cName, cConst, cBin, cCmp, ofString_inj, ofString_beq, fx_cons, lk_cons, locIx, cTargets, cSuite, cHandlers, swName, swOk, Expr.pos, foldedForSure, constantsAlone, isComp, isName, plainBase, compOk, toAV, cp_0, cp_1, cp_2, cp_3, cp_4, cp_5, cp_6, cp_7, cp_8, cp_9, cp_10, cp_11, cp_12, cp_13, cp_14, g_chr, g_lower_code, g_ord, g_range, g_len, g_WordFault, g_is_leap, g_MOST_YEAR, g_month_length, g_is_figures, g_int, g_is_day, g_month_number, g_MONTHS, g_lower_text, g_day_in, g_read_day, g_ascii_text, g_QueryFault, g_WireFault, g_QUOTE, g_BACKSLASH, g_CRLF, g_SPECIALS, g_MOST_COUNT_FIGURES, g_is_printable, g_is_atom_code, g_is_astring_code, g_is_figure, g_number_of_figures, g_bytes, g_bytearray, g_Wire, g_law_months, g_law_years, g_law_table, g_law_pick, g_law_long, g_law_due, g_law_heard, g_law_is_right, g_day_here, w_space, w_need, w_skip, w_fault, w_peek, w_astring, w_string_or, w_string, w_quoted, w_literal, w_run, w_split, w_lower, w_upper, w_pop, w_index, w_append, w_join]
    exact rfl

noncomputable def F112 : {f : Fn // ∀ P, cF (KP P) 112 = some f} := by
  refine ⟨?_, fun P => ?_⟩
  rotate_left
  · unfold cF
    rw [show (KP P).lookup 112 = some _ from by with_unfolding_all rfl]
    dsimp only
    rw [if_pos (by kernel_rfl)]
    simp [cSs, cS, cE, cEs, cO, cName, cConst, cBin, cCmp, ofString_inj, ofString_beq, fx_cons, lk_cons, locIx, cTargets, cSuite, cHandlers, swName, swOk, Expr.pos, foldedForSure, constantsAlone, isComp, isName, plainBase, compOk, toAV, cp_0, cp_1, cp_2, cp_3, cp_4, cp_5, cp_6, cp_7, cp_8, cp_9, cp_10, cp_11, cp_12, cp_13, cp_14, g_chr, g_lower_code, g_ord, g_range, g_len, g_WordFault, g_is_leap, g_MOST_YEAR, g_month_length, g_is_figures, g_int, g_is_day, g_month_number, g_MONTHS, g_lower_text, g_day_in, g_read_day, g_ascii_text, g_QueryFault, g_WireFault, g_QUOTE, g_BACKSLASH, g_CRLF, g_SPECIALS, g_MOST_COUNT_FIGURES, g_is_printable, g_is_atom_code, g_is_astring_code, g_is_figure, g_number_of_figures, g_bytes, g_bytearray, g_Wire, g_law_months, g_law_years, g_law_table, g_law_pick, g_law_long, g_law_due, g_law_heard, g_law_is_right, g_day_here, w_space, w_need, w_skip, w_fault, w_peek, w_astring, w_string_or, w_string, w_quoted, w_literal, w_run, w_split, w_lower, w_upper, w_pop, w_index, w_append, w_join]
    exact rfl

noncomputable def F120 : {f : Fn // ∀ P, cF (KP P) 120 = some f} := by
  refine ⟨?_, fun P => ?_⟩
  rotate_left
  · unfold cF
    rw [show (KP P).lookup 120 = some _ from by with_unfolding_all rfl]
    dsimp only
    rw [if_pos (by kernel_rfl)]
    simp [cSs, cS, cE, cEs, cO, cName, cConst, cBin, cCmp, ofString_inj, ofString_beq, fx_cons, lk_cons, locIx, cTargets, cSuite, cHandlers, swName, swOk, Expr.pos, foldedForSure, constantsAlone, isComp, isName, plainBase, compOk, toAV, cp_0, cp_1, cp_2, cp_3, cp_4, cp_5, cp_6, cp_7, cp_8, cp_9, cp_10, cp_11, cp_12, cp_13, cp_14, g_chr, g_lower_code, g_ord, g_range, g_len, g_WordFault, g_is_leap, g_MOST_YEAR, g_month_length, g_is_figures, g_int, g_is_day, g_month_number, g_MONTHS, g_lower_text, g_day_in, g_read_day, g_ascii_text, g_QueryFault, g_WireFault, g_QUOTE, g_BACKSLASH, g_CRLF, g_SPECIALS, g_MOST_COUNT_FIGURES, g_is_printable, g_is_atom_code, g_is_astring_code, g_is_figure, g_number_of_figures, g_bytes, g_bytearray, g_Wire, g_law_months, g_law_years, g_law_table, g_law_pick, g_law_long, g_law_due, g_law_heard, g_law_is_right, g_day_here, w_space, w_need, w_skip, w_fault, w_peek, w_astring, w_string_or, w_string, w_quoted, w_literal, w_run, w_split, w_lower, w_upper, w_pop, w_index, w_append, w_join]
    exact rfl

noncomputable def F127 : {f : Fn // ∀ P, cF (KP P) 127 = some f} := by
  refine ⟨?_, fun P => ?_⟩
  rotate_left
  · unfold cF
    rw [show (KP P).lookup 127 = some _ from by with_unfolding_all rfl]
    dsimp only
    rw [if_pos (by kernel_rfl)]
    simp [cSs, cS, cE, cEs, cO, cName, cConst, cBin, cCmp, ofString_inj, ofString_beq, fx_cons, lk_cons, locIx, cTargets, cSuite, cHandlers, swName, swOk, Expr.pos, foldedForSure, constantsAlone, isComp, isName, plainBase, compOk, toAV, cp_0, cp_1, cp_2, cp_3, cp_4, cp_5, cp_6, cp_7, cp_8, cp_9, cp_10, cp_11, cp_12, cp_13, cp_14, g_chr, g_lower_code, g_ord, g_range, g_len, g_WordFault, g_is_leap, g_MOST_YEAR, g_month_length, g_is_figures, g_int, g_is_day, g_month_number, g_MONTHS, g_lower_text, g_day_in, g_read_day, g_ascii_text, g_QueryFault, g_WireFault, g_QUOTE, g_BACKSLASH, g_CRLF, g_SPECIALS, g_MOST_COUNT_FIGURES, g_is_printable, g_is_atom_code, g_is_astring_code, g_is_figure, g_number_of_figures, g_bytes, g_bytearray, g_Wire, g_law_months, g_law_years, g_law_table, g_law_pick, g_law_long, g_law_due, g_law_heard, g_law_is_right, g_day_here, w_space, w_need, w_skip, w_fault, w_peek, w_astring, w_string_or, w_string, w_quoted, w_literal, w_run, w_split, w_lower, w_upper, w_pop, w_index, w_append, w_join]
    exact rfl

noncomputable def F134 : {f : Fn // ∀ P, cF (KP P) 134 = some f} := by
  refine ⟨?_, fun P => ?_⟩
  rotate_left
  · unfold cF
    rw [show (KP P).lookup 134 = some _ from by with_unfolding_all rfl]
    dsimp only
    rw [if_pos (by kernel_rfl)]
    simp [cSs, cS, cE, cEs, cO, cName, cConst, cBin, cCmp, ofString_inj, ofString_beq, fx_cons, lk_cons, locIx, cTargets, cSuite, cHandlers, swName, swOk, Expr.pos, foldedForSure, constantsAlone, isComp, isName, plainBase, compOk, toAV, cp_0, cp_1, cp_2, cp_3, cp_4, cp_5, cp_6, cp_7, cp_8, cp_9, cp_10, cp_11, cp_12, cp_13, cp_14, g_chr, g_lower_code, g_ord, g_range, g_len, g_WordFault, g_is_leap, g_MOST_YEAR, g_month_length, g_is_figures, g_int, g_is_day, g_month_number, g_MONTHS, g_lower_text, g_day_in, g_read_day, g_ascii_text, g_QueryFault, g_WireFault, g_QUOTE, g_BACKSLASH, g_CRLF, g_SPECIALS, g_MOST_COUNT_FIGURES, g_is_printable, g_is_atom_code, g_is_astring_code, g_is_figure, g_number_of_figures, g_bytes, g_bytearray, g_Wire, g_law_months, g_law_years, g_law_table, g_law_pick, g_law_long, g_law_due, g_law_heard, g_law_is_right, g_day_here, w_space, w_need, w_skip, w_fault, w_peek, w_astring, w_string_or, w_string, w_quoted, w_literal, w_run, w_split, w_lower, w_upper, w_pop, w_index, w_append, w_join]
    exact rfl

noncomputable def F139 : {f : Fn // ∀ P, cF (KP P) 139 = some f} := by
  refine ⟨?_, fun P => ?_⟩
  rotate_left
  · unfold cF
    rw [show (KP P).lookup 139 = some _ from by with_unfolding_all rfl]
    dsimp only
    rw [if_pos (by kernel_rfl)]
    simp [cSs, cS, cE, cEs, cO, cName, cConst, cBin, cCmp, ofString_inj, ofString_beq, fx_cons, lk_cons, locIx, cTargets, cSuite, cHandlers, swName, swOk, Expr.pos, foldedForSure, constantsAlone, isComp, isName, plainBase, compOk, toAV, cp_0, cp_1, cp_2, cp_3, cp_4, cp_5, cp_6, cp_7, cp_8, cp_9, cp_10, cp_11, cp_12, cp_13, cp_14, g_chr, g_lower_code, g_ord, g_range, g_len, g_WordFault, g_is_leap, g_MOST_YEAR, g_month_length, g_is_figures, g_int, g_is_day, g_month_number, g_MONTHS, g_lower_text, g_day_in, g_read_day, g_ascii_text, g_QueryFault, g_WireFault, g_QUOTE, g_BACKSLASH, g_CRLF, g_SPECIALS, g_MOST_COUNT_FIGURES, g_is_printable, g_is_atom_code, g_is_astring_code, g_is_figure, g_number_of_figures, g_bytes, g_bytearray, g_Wire, g_law_months, g_law_years, g_law_table, g_law_pick, g_law_long, g_law_due, g_law_heard, g_law_is_right, g_day_here, w_space, w_need, w_skip, w_fault, w_peek, w_astring, w_string_or, w_string, w_quoted, w_literal, w_run, w_split, w_lower, w_upper, w_pop, w_index, w_append, w_join]
    exact rfl

noncomputable def F144 : {f : Fn // ∀ P, cF (KP P) 144 = some f} := by
  refine ⟨?_, fun P => ?_⟩
  rotate_left
  · unfold cF
    rw [show (KP P).lookup 144 = some _ from by with_unfolding_all rfl]
    dsimp only
    rw [if_pos (by kernel_rfl)]
    simp [cSs, cS, cE, cEs, cO, cName, cConst, cBin, cCmp, ofString_inj, ofString_beq, fx_cons, lk_cons, locIx, cTargets, cSuite, cHandlers, swName, swOk, Expr.pos, foldedForSure, constantsAlone, isComp, isName, plainBase, compOk, toAV, cp_0, cp_1, cp_2, cp_3, cp_4, cp_5, cp_6, cp_7, cp_8, cp_9, cp_10, cp_11, cp_12, cp_13, cp_14, g_chr, g_lower_code, g_ord, g_range, g_len, g_WordFault, g_is_leap, g_MOST_YEAR, g_month_length, g_is_figures, g_int, g_is_day, g_month_number, g_MONTHS, g_lower_text, g_day_in, g_read_day, g_ascii_text, g_QueryFault, g_WireFault, g_QUOTE, g_BACKSLASH, g_CRLF, g_SPECIALS, g_MOST_COUNT_FIGURES, g_is_printable, g_is_atom_code, g_is_astring_code, g_is_figure, g_number_of_figures, g_bytes, g_bytearray, g_Wire, g_law_months, g_law_years, g_law_table, g_law_pick, g_law_long, g_law_due, g_law_heard, g_law_is_right, g_day_here, w_space, w_need, w_skip, w_fault, w_peek, w_astring, w_string_or, w_string, w_quoted, w_literal, w_run, w_split, w_lower, w_upper, w_pop, w_index, w_append, w_join]
    exact rfl

noncomputable def F151 : {f : Fn // ∀ P, cF (KP P) 151 = some f} := by
  refine ⟨?_, fun P => ?_⟩
  rotate_left
  · unfold cF
    rw [show (KP P).lookup 151 = some _ from by with_unfolding_all rfl]
    dsimp only
    rw [if_pos (by kernel_rfl)]
    simp [cSs, cS, cE, cEs, cO, cName, cConst, cBin, cCmp, ofString_inj, ofString_beq, fx_cons, lk_cons, locIx, cTargets, cSuite, cHandlers, swName, swOk, Expr.pos, foldedForSure, constantsAlone, isComp, isName, plainBase, compOk, toAV, cp_0, cp_1, cp_2, cp_3, cp_4, cp_5, cp_6, cp_7, cp_8, cp_9, cp_10, cp_11, cp_12, cp_13, cp_14, g_chr, g_lower_code, g_ord, g_range, g_len, g_WordFault, g_is_leap, g_MOST_YEAR, g_month_length, g_is_figures, g_int, g_is_day, g_month_number, g_MONTHS, g_lower_text, g_day_in, g_read_day, g_ascii_text, g_QueryFault, g_WireFault, g_QUOTE, g_BACKSLASH, g_CRLF, g_SPECIALS, g_MOST_COUNT_FIGURES, g_is_printable, g_is_atom_code, g_is_astring_code, g_is_figure, g_number_of_figures, g_bytes, g_bytearray, g_Wire, g_law_months, g_law_years, g_law_table, g_law_pick, g_law_long, g_law_due, g_law_heard, g_law_is_right, g_day_here, w_space, w_need, w_skip, w_fault, w_peek, w_astring, w_string_or, w_string, w_quoted, w_literal, w_run, w_split, w_lower, w_upper, w_pop, w_index, w_append, w_join]
    exact rfl

noncomputable def F158 : {f : Fn // ∀ P, cF (KP P) 158 = some f} := by
  refine ⟨?_, fun P => ?_⟩
  rotate_left
  · unfold cF
    rw [show (KP P).lookup 158 = some _ from by with_unfolding_all rfl]
    dsimp only
    rw [if_pos (by kernel_rfl)]
    simp [cSs, cS, cE, cEs, cO, cName, cConst, cBin, cCmp, ofString_inj, ofString_beq, fx_cons, lk_cons, locIx, cTargets, cSuite, cHandlers, swName, swOk, Expr.pos, foldedForSure, constantsAlone, isComp, isName, plainBase, compOk, toAV, cp_0, cp_1, cp_2, cp_3, cp_4, cp_5, cp_6, cp_7, cp_8, cp_9, cp_10, cp_11, cp_12, cp_13, cp_14, g_chr, g_lower_code, g_ord, g_range, g_len, g_WordFault, g_is_leap, g_MOST_YEAR, g_month_length, g_is_figures, g_int, g_is_day, g_month_number, g_MONTHS, g_lower_text, g_day_in, g_read_day, g_ascii_text, g_QueryFault, g_WireFault, g_QUOTE, g_BACKSLASH, g_CRLF, g_SPECIALS, g_MOST_COUNT_FIGURES, g_is_printable, g_is_atom_code, g_is_astring_code, g_is_figure, g_number_of_figures, g_bytes, g_bytearray, g_Wire, g_law_months, g_law_years, g_law_table, g_law_pick, g_law_long, g_law_due, g_law_heard, g_law_is_right, g_day_here, w_space, w_need, w_skip, w_fault, w_peek, w_astring, w_string_or, w_string, w_quoted, w_literal, w_run, w_split, w_lower, w_upper, w_pop, w_index, w_append, w_join]
    exact rfl

noncomputable def F165 : {f : Fn // ∀ P, cF (KP P) 165 = some f} := by
  refine ⟨?_, fun P => ?_⟩
  rotate_left
  · unfold cF
    rw [show (KP P).lookup 165 = some _ from by with_unfolding_all rfl]
    dsimp only
    rw [if_pos (by kernel_rfl)]
    simp [cSs, cS, cE, cEs, cO, cName, cConst, cBin, cCmp, ofString_inj, ofString_beq, fx_cons, lk_cons, locIx, cTargets, cSuite, cHandlers, swName, swOk, Expr.pos, foldedForSure, constantsAlone, isComp, isName, plainBase, compOk, toAV, cp_0, cp_1, cp_2, cp_3, cp_4, cp_5, cp_6, cp_7, cp_8, cp_9, cp_10, cp_11, cp_12, cp_13, cp_14, g_chr, g_lower_code, g_ord, g_range, g_len, g_WordFault, g_is_leap, g_MOST_YEAR, g_month_length, g_is_figures, g_int, g_is_day, g_month_number, g_MONTHS, g_lower_text, g_day_in, g_read_day, g_ascii_text, g_QueryFault, g_WireFault, g_QUOTE, g_BACKSLASH, g_CRLF, g_SPECIALS, g_MOST_COUNT_FIGURES, g_is_printable, g_is_atom_code, g_is_astring_code, g_is_figure, g_number_of_figures, g_bytes, g_bytearray, g_Wire, g_law_months, g_law_years, g_law_table, g_law_pick, g_law_long, g_law_due, g_law_heard, g_law_is_right, g_day_here, w_space, w_need, w_skip, w_fault, w_peek, w_astring, w_string_or, w_string, w_quoted, w_literal, w_run, w_split, w_lower, w_upper, w_pop, w_index, w_append, w_join]
    exact rfl

noncomputable def F200 : {f : Fn // ∀ P, cF (KP P) 200 = some f} := by
  refine ⟨?_, fun P => ?_⟩
  rotate_left
  · unfold cF
    rw [show (KP P).lookup 200 = some _ from by with_unfolding_all rfl]
    dsimp only
    rw [if_pos (by kernel_rfl)]
    simp [cSs, cS, cE, cEs, cO, cName, cConst, cBin, cCmp, ofString_inj, ofString_beq, fx_cons, lk_cons, locIx, cTargets, cSuite, cHandlers, swName, swOk, Expr.pos, foldedForSure, constantsAlone, isComp, isName, plainBase, compOk, toAV, cp_0, cp_1, cp_2, cp_3, cp_4, cp_5, cp_6, cp_7, cp_8, cp_9, cp_10, cp_11, cp_12, cp_13, cp_14, g_chr, g_lower_code, g_ord, g_range, g_len, g_WordFault, g_is_leap, g_MOST_YEAR, g_month_length, g_is_figures, g_int, g_is_day, g_month_number, g_MONTHS, g_lower_text, g_day_in, g_read_day, g_ascii_text, g_QueryFault, g_WireFault, g_QUOTE, g_BACKSLASH, g_CRLF, g_SPECIALS, g_MOST_COUNT_FIGURES, g_is_printable, g_is_atom_code, g_is_astring_code, g_is_figure, g_number_of_figures, g_bytes, g_bytearray, g_Wire, g_law_months, g_law_years, g_law_table, g_law_pick, g_law_long, g_law_due, g_law_heard, g_law_is_right, g_day_here, w_space, w_need, w_skip, w_fault, w_peek, w_astring, w_string_or, w_string, w_quoted, w_literal, w_run, w_split, w_lower, w_upper, w_pop, w_index, w_append, w_join]
    exact rfl

noncomputable def F207 : {f : Fn // ∀ P, cF (KP P) 207 = some f} := by
  refine ⟨?_, fun P => ?_⟩
  rotate_left
  · unfold cF
    rw [show (KP P).lookup 207 = some _ from by with_unfolding_all rfl]
    dsimp only
    rw [if_pos (by kernel_rfl)]
    simp [cSs, cS, cE, cEs, cO, cName, cConst, cBin, cCmp, ofString_inj, ofString_beq, fx_cons, lk_cons, locIx, cTargets, cSuite, cHandlers, swName, swOk, Expr.pos, foldedForSure, constantsAlone, isComp, isName, plainBase, compOk, toAV, cp_0, cp_1, cp_2, cp_3, cp_4, cp_5, cp_6, cp_7, cp_8, cp_9, cp_10, cp_11, cp_12, cp_13, cp_14, g_chr, g_lower_code, g_ord, g_range, g_len, g_WordFault, g_is_leap, g_MOST_YEAR, g_month_length, g_is_figures, g_int, g_is_day, g_month_number, g_MONTHS, g_lower_text, g_day_in, g_read_day, g_ascii_text, g_QueryFault, g_WireFault, g_QUOTE, g_BACKSLASH, g_CRLF, g_SPECIALS, g_MOST_COUNT_FIGURES, g_is_printable, g_is_atom_code, g_is_astring_code, g_is_figure, g_number_of_figures, g_bytes, g_bytearray, g_Wire, g_law_months, g_law_years, g_law_table, g_law_pick, g_law_long, g_law_due, g_law_heard, g_law_is_right, g_day_here, w_space, w_need, w_skip, w_fault, w_peek, w_astring, w_string_or, w_string, w_quoted, w_literal, w_run, w_split, w_lower, w_upper, w_pop, w_index, w_append, w_join]
    exact rfl

noncomputable def F214 : {f : Fn // ∀ P, cF (KP P) 214 = some f} := by
  refine ⟨?_, fun P => ?_⟩
  rotate_left
  · unfold cF
    rw [show (KP P).lookup 214 = some _ from by with_unfolding_all rfl]
    dsimp only
    rw [if_pos (by kernel_rfl)]
    simp [cSs, cS, cE, cEs, cO, cName, cConst, cBin, cCmp, ofString_inj, ofString_beq, fx_cons, lk_cons, locIx, cTargets, cSuite, cHandlers, swName, swOk, Expr.pos, foldedForSure, constantsAlone, isComp, isName, plainBase, compOk, toAV, cp_0, cp_1, cp_2, cp_3, cp_4, cp_5, cp_6, cp_7, cp_8, cp_9, cp_10, cp_11, cp_12, cp_13, cp_14, g_chr, g_lower_code, g_ord, g_range, g_len, g_WordFault, g_is_leap, g_MOST_YEAR, g_month_length, g_is_figures, g_int, g_is_day, g_month_number, g_MONTHS, g_lower_text, g_day_in, g_read_day, g_ascii_text, g_QueryFault, g_WireFault, g_QUOTE, g_BACKSLASH, g_CRLF, g_SPECIALS, g_MOST_COUNT_FIGURES, g_is_printable, g_is_atom_code, g_is_astring_code, g_is_figure, g_number_of_figures, g_bytes, g_bytearray, g_Wire, g_law_months, g_law_years, g_law_table, g_law_pick, g_law_long, g_law_due, g_law_heard, g_law_is_right, g_day_here, w_space, w_need, w_skip, w_fault, w_peek, w_astring, w_string_or, w_string, w_quoted, w_literal, w_run, w_split, w_lower, w_upper, w_pop, w_index, w_append, w_join]
    exact rfl

noncomputable def F228 : {f : Fn // ∀ P, cF (KP P) 228 = some f} := by
  refine ⟨?_, fun P => ?_⟩
  rotate_left
  · unfold cF
    rw [show (KP P).lookup 228 = some _ from by with_unfolding_all rfl]
    dsimp only
    rw [if_pos (by kernel_rfl)]
    simp [cSs, cS, cE, cEs, cO, cName, cConst, cBin, cCmp, ofString_inj, ofString_beq, fx_cons, lk_cons, locIx, cTargets, cSuite, cHandlers, swName, swOk, Expr.pos, foldedForSure, constantsAlone, isComp, isName, plainBase, compOk, toAV, cp_0, cp_1, cp_2, cp_3, cp_4, cp_5, cp_6, cp_7, cp_8, cp_9, cp_10, cp_11, cp_12, cp_13, cp_14, g_chr, g_lower_code, g_ord, g_range, g_len, g_WordFault, g_is_leap, g_MOST_YEAR, g_month_length, g_is_figures, g_int, g_is_day, g_month_number, g_MONTHS, g_lower_text, g_day_in, g_read_day, g_ascii_text, g_QueryFault, g_WireFault, g_QUOTE, g_BACKSLASH, g_CRLF, g_SPECIALS, g_MOST_COUNT_FIGURES, g_is_printable, g_is_atom_code, g_is_astring_code, g_is_figure, g_number_of_figures, g_bytes, g_bytearray, g_Wire, g_law_months, g_law_years, g_law_table, g_law_pick, g_law_long, g_law_due, g_law_heard, g_law_is_right, g_day_here, w_space, w_need, w_skip, w_fault, w_peek, w_astring, w_string_or, w_string, w_quoted, w_literal, w_run, w_split, w_lower, w_upper, w_pop, w_index, w_append, w_join]
    exact rfl

noncomputable def F235 : {f : Fn // ∀ P, cF (KP P) 235 = some f} := by
  refine ⟨?_, fun P => ?_⟩
  rotate_left
  · unfold cF
    rw [show (KP P).lookup 235 = some _ from by with_unfolding_all rfl]
    dsimp only
    rw [if_pos (by kernel_rfl)]
    simp [cSs, cS, cE, cEs, cO, cName, cConst, cBin, cCmp, ofString_inj, ofString_beq, fx_cons, lk_cons, locIx, cTargets, cSuite, cHandlers, swName, swOk, Expr.pos, foldedForSure, constantsAlone, isComp, isName, plainBase, compOk, toAV, cp_0, cp_1, cp_2, cp_3, cp_4, cp_5, cp_6, cp_7, cp_8, cp_9, cp_10, cp_11, cp_12, cp_13, cp_14, g_chr, g_lower_code, g_ord, g_range, g_len, g_WordFault, g_is_leap, g_MOST_YEAR, g_month_length, g_is_figures, g_int, g_is_day, g_month_number, g_MONTHS, g_lower_text, g_day_in, g_read_day, g_ascii_text, g_QueryFault, g_WireFault, g_QUOTE, g_BACKSLASH, g_CRLF, g_SPECIALS, g_MOST_COUNT_FIGURES, g_is_printable, g_is_atom_code, g_is_astring_code, g_is_figure, g_number_of_figures, g_bytes, g_bytearray, g_Wire, g_law_months, g_law_years, g_law_table, g_law_pick, g_law_long, g_law_due, g_law_heard, g_law_is_right, g_day_here, w_space, w_need, w_skip, w_fault, w_peek, w_astring, w_string_or, w_string, w_quoted, w_literal, w_run, w_split, w_lower, w_upper, w_pop, w_index, w_append, w_join]
    exact rfl

noncomputable def F454 : {f : Fn // ∀ P, cF (KP P) 454 = some f} := by
  refine ⟨?_, fun P => ?_⟩
  rotate_left
  · unfold cF
    rw [show (KP P).lookup 454 = some _ from by with_unfolding_all rfl]
    dsimp only
    rw [if_pos (by kernel_rfl)]
    simp [cSs, cS, cE, cEs, cO, cName, cConst, cBin, cCmp, ofString_inj, ofString_beq, fx_cons, lk_cons, locIx, cTargets, cSuite, cHandlers, swName, swOk, Expr.pos, foldedForSure, constantsAlone, isComp, isName, plainBase, compOk, toAV, cp_0, cp_1, cp_2, cp_3, cp_4, cp_5, cp_6, cp_7, cp_8, cp_9, cp_10, cp_11, cp_12, cp_13, cp_14, g_chr, g_lower_code, g_ord, g_range, g_len, g_WordFault, g_is_leap, g_MOST_YEAR, g_month_length, g_is_figures, g_int, g_is_day, g_month_number, g_MONTHS, g_lower_text, g_day_in, g_read_day, g_ascii_text, g_QueryFault, g_WireFault, g_QUOTE, g_BACKSLASH, g_CRLF, g_SPECIALS, g_MOST_COUNT_FIGURES, g_is_printable, g_is_atom_code, g_is_astring_code, g_is_figure, g_number_of_figures, g_bytes, g_bytearray, g_Wire, g_law_months, g_law_years, g_law_table, g_law_pick, g_law_long, g_law_due, g_law_heard, g_law_is_right, g_day_here, w_space, w_need, w_skip, w_fault, w_peek, w_astring, w_string_or, w_string, w_quoted, w_literal, w_run, w_split, w_lower, w_upper, w_pop, w_index, w_append, w_join]
    exact rfl

noncomputable def F461 : {f : Fn // ∀ P, cF (KP P) 461 = some f} := by
  refine ⟨?_, fun P => ?_⟩
  rotate_left
  · unfold cF
    rw [show (KP P).lookup 461 = some _ from by with_unfolding_all rfl]
    dsimp only
    rw [if_pos (by kernel_rfl)]
    simp [cSs, cS, cE, cEs, cO, cName, cConst, cBin, cCmp, ofString_inj, ofString_beq, fx_cons, lk_cons, locIx, cTargets, cSuite, cHandlers, swName, swOk, Expr.pos, foldedForSure, constantsAlone, isComp, isName, plainBase, compOk, toAV, cp_0, cp_1, cp_2, cp_3, cp_4, cp_5, cp_6, cp_7, cp_8, cp_9, cp_10, cp_11, cp_12, cp_13, cp_14, g_chr, g_lower_code, g_ord, g_range, g_len, g_WordFault, g_is_leap, g_MOST_YEAR, g_month_length, g_is_figures, g_int, g_is_day, g_month_number, g_MONTHS, g_lower_text, g_day_in, g_read_day, g_ascii_text, g_QueryFault, g_WireFault, g_QUOTE, g_BACKSLASH, g_CRLF, g_SPECIALS, g_MOST_COUNT_FIGURES, g_is_printable, g_is_atom_code, g_is_astring_code, g_is_figure, g_number_of_figures, g_bytes, g_bytearray, g_Wire, g_law_months, g_law_years, g_law_table, g_law_pick, g_law_long, g_law_due, g_law_heard, g_law_is_right, g_day_here, w_space, w_need, w_skip, w_fault, w_peek, w_astring, w_string_or, w_string, w_quoted, w_literal, w_run, w_split, w_lower, w_upper, w_pop, w_index, w_append, w_join]
    exact rfl

noncomputable def F466 : {f : Fn // ∀ P, cF (KP P) 466 = some f} := by
  refine ⟨?_, fun P => ?_⟩
  rotate_left
  · unfold cF
    rw [show (KP P).lookup 466 = some _ from by with_unfolding_all rfl]
    dsimp only
    rw [if_pos (by kernel_rfl)]
    simp [cSs, cS, cE, cEs, cO, cName, cConst, cBin, cCmp, ofString_inj, ofString_beq, fx_cons, lk_cons, locIx, cTargets, cSuite, cHandlers, swName, swOk, Expr.pos, foldedForSure, constantsAlone, isComp, isName, plainBase, compOk, toAV, cp_0, cp_1, cp_2, cp_3, cp_4, cp_5, cp_6, cp_7, cp_8, cp_9, cp_10, cp_11, cp_12, cp_13, cp_14, g_chr, g_lower_code, g_ord, g_range, g_len, g_WordFault, g_is_leap, g_MOST_YEAR, g_month_length, g_is_figures, g_int, g_is_day, g_month_number, g_MONTHS, g_lower_text, g_day_in, g_read_day, g_ascii_text, g_QueryFault, g_WireFault, g_QUOTE, g_BACKSLASH, g_CRLF, g_SPECIALS, g_MOST_COUNT_FIGURES, g_is_printable, g_is_atom_code, g_is_astring_code, g_is_figure, g_number_of_figures, g_bytes, g_bytearray, g_Wire, g_law_months, g_law_years, g_law_table, g_law_pick, g_law_long, g_law_due, g_law_heard, g_law_is_right, g_day_here, w_space, w_need, w_skip, w_fault, w_peek, w_astring, w_string_or, w_string, w_quoted, w_literal, w_run, w_split, w_lower, w_upper, w_pop, w_index, w_append, w_join]
    exact rfl

noncomputable def F473 : {f : Fn // ∀ P, cF (KP P) 473 = some f} := by
  refine ⟨?_, fun P => ?_⟩
  rotate_left
  · unfold cF
    rw [show (KP P).lookup 473 = some _ from by with_unfolding_all rfl]
    dsimp only
    rw [if_pos (by kernel_rfl)]
    simp [cSs, cS, cE, cEs, cO, cName, cConst, cBin, cCmp, ofString_inj, ofString_beq, fx_cons, lk_cons, locIx, cTargets, cSuite, cHandlers, swName, swOk, Expr.pos, foldedForSure, constantsAlone, isComp, isName, plainBase, compOk, toAV, cp_0, cp_1, cp_2, cp_3, cp_4, cp_5, cp_6, cp_7, cp_8, cp_9, cp_10, cp_11, cp_12, cp_13, cp_14, g_chr, g_lower_code, g_ord, g_range, g_len, g_WordFault, g_is_leap, g_MOST_YEAR, g_month_length, g_is_figures, g_int, g_is_day, g_month_number, g_MONTHS, g_lower_text, g_day_in, g_read_day, g_ascii_text, g_QueryFault, g_WireFault, g_QUOTE, g_BACKSLASH, g_CRLF, g_SPECIALS, g_MOST_COUNT_FIGURES, g_is_printable, g_is_atom_code, g_is_astring_code, g_is_figure, g_number_of_figures, g_bytes, g_bytearray, g_Wire, g_law_months, g_law_years, g_law_table, g_law_pick, g_law_long, g_law_due, g_law_heard, g_law_is_right, g_day_here, w_space, w_need, w_skip, w_fault, w_peek, w_astring, w_string_or, w_string, w_quoted, w_literal, w_run, w_split, w_lower, w_upper, w_pop, w_index, w_append, w_join]
    exact rfl

noncomputable def F478 : {f : Fn // ∀ P, cF (KP P) 478 = some f} := by
  refine ⟨?_, fun P => ?_⟩
  rotate_left
  · unfold cF
    rw [show (KP P).lookup 478 = some _ from by with_unfolding_all rfl]
    dsimp only
    rw [if_pos (by kernel_rfl)]
    simp [cSs, cS, cE, cEs, cO, cName, cConst, cBin, cCmp, ofString_inj, ofString_beq, fx_cons, lk_cons, locIx, cTargets, cSuite, cHandlers, swName, swOk, Expr.pos, foldedForSure, constantsAlone, isComp, isName, plainBase, compOk, toAV, cp_0, cp_1, cp_2, cp_3, cp_4, cp_5, cp_6, cp_7, cp_8, cp_9, cp_10, cp_11, cp_12, cp_13, cp_14, g_chr, g_lower_code, g_ord, g_range, g_len, g_WordFault, g_is_leap, g_MOST_YEAR, g_month_length, g_is_figures, g_int, g_is_day, g_month_number, g_MONTHS, g_lower_text, g_day_in, g_read_day, g_ascii_text, g_QueryFault, g_WireFault, g_QUOTE, g_BACKSLASH, g_CRLF, g_SPECIALS, g_MOST_COUNT_FIGURES, g_is_printable, g_is_atom_code, g_is_astring_code, g_is_figure, g_number_of_figures, g_bytes, g_bytearray, g_Wire, g_law_months, g_law_years, g_law_table, g_law_pick, g_law_long, g_law_due, g_law_heard, g_law_is_right, g_day_here, w_space, w_need, w_skip, w_fault, w_peek, w_astring, w_string_or, w_string, w_quoted, w_literal, w_run, w_split, w_lower, w_upper, w_pop, w_index, w_append, w_join]
    exact rfl

noncomputable def F483 : {f : Fn // ∀ P, cF (KP P) 483 = some f} := by
  refine ⟨?_, fun P => ?_⟩
  rotate_left
  · unfold cF
    rw [show (KP P).lookup 483 = some _ from by with_unfolding_all rfl]
    dsimp only
    rw [if_pos (by kernel_rfl)]
    simp [cSs, cS, cE, cEs, cO, cName, cConst, cBin, cCmp, ofString_inj, ofString_beq, fx_cons, lk_cons, locIx, cTargets, cSuite, cHandlers, swName, swOk, Expr.pos, foldedForSure, constantsAlone, isComp, isName, plainBase, compOk, toAV, cp_0, cp_1, cp_2, cp_3, cp_4, cp_5, cp_6, cp_7, cp_8, cp_9, cp_10, cp_11, cp_12, cp_13, cp_14, g_chr, g_lower_code, g_ord, g_range, g_len, g_WordFault, g_is_leap, g_MOST_YEAR, g_month_length, g_is_figures, g_int, g_is_day, g_month_number, g_MONTHS, g_lower_text, g_day_in, g_read_day, g_ascii_text, g_QueryFault, g_WireFault, g_QUOTE, g_BACKSLASH, g_CRLF, g_SPECIALS, g_MOST_COUNT_FIGURES, g_is_printable, g_is_atom_code, g_is_astring_code, g_is_figure, g_number_of_figures, g_bytes, g_bytearray, g_Wire, g_law_months, g_law_years, g_law_table, g_law_pick, g_law_long, g_law_due, g_law_heard, g_law_is_right, g_day_here, w_space, w_need, w_skip, w_fault, w_peek, w_astring, w_string_or, w_string, w_quoted, w_literal, w_run, w_split, w_lower, w_upper, w_pop, w_index, w_append, w_join]
    exact rfl

noncomputable def F271 : {f : Fn // ∀ P, cF (KP P) 271 = some f} := by
  refine ⟨?_, fun P => ?_⟩
  rotate_left
  · unfold cF
    rw [show (KP P).lookup 271 = some _ from by with_unfolding_all rfl]
    dsimp only
    rw [if_pos (by kernel_rfl)]
    simp [cSs, cS, cE, cEs, cO, cName, cConst, cBin, cCmp, ofString_inj, ofString_beq, fx_cons, lk_cons, locIx, cTargets, cSuite, cHandlers, swName, swOk, Expr.pos, foldedForSure, constantsAlone, isComp, isName, plainBase, compOk, toAV, cp_0, cp_1, cp_2, cp_3, cp_4, cp_5, cp_6, cp_7, cp_8, cp_9, cp_10, cp_11, cp_12, cp_13, cp_14, g_chr, g_lower_code, g_ord, g_range, g_len, g_WordFault, g_is_leap, g_MOST_YEAR, g_month_length, g_is_figures, g_int, g_is_day, g_month_number, g_MONTHS, g_lower_text, g_day_in, g_read_day, g_ascii_text, g_QueryFault, g_WireFault, g_QUOTE, g_BACKSLASH, g_CRLF, g_SPECIALS, g_MOST_COUNT_FIGURES, g_is_printable, g_is_atom_code, g_is_astring_code, g_is_figure, g_number_of_figures, g_bytes, g_bytearray, g_Wire, g_law_months, g_law_years, g_law_table, g_law_pick, g_law_long, g_law_due, g_law_heard, g_law_is_right, g_day_here, w_space, w_need, w_skip, w_fault, w_peek, w_astring, w_string_or, w_string, w_quoted, w_literal, w_run, w_split, w_lower, w_upper, w_pop, w_index, w_append, w_join]
    exact rfl

noncomputable def F278 : {f : Fn // ∀ P, cF (KP P) 278 = some f} := by
  refine ⟨?_, fun P => ?_⟩
  rotate_left
  · unfold cF
    rw [show (KP P).lookup 278 = some _ from by with_unfolding_all rfl]
    dsimp only
    rw [if_pos (by kernel_rfl)]
    simp [cSs, cS, cE, cEs, cO, cName, cConst, cBin, cCmp, ofString_inj, ofString_beq, fx_cons, lk_cons, locIx, cTargets, cSuite, cHandlers, swName, swOk, Expr.pos, foldedForSure, constantsAlone, isComp, isName, plainBase, compOk, toAV, cp_0, cp_1, cp_2, cp_3, cp_4, cp_5, cp_6, cp_7, cp_8, cp_9, cp_10, cp_11, cp_12, cp_13, cp_14, g_chr, g_lower_code, g_ord, g_range, g_len, g_WordFault, g_is_leap, g_MOST_YEAR, g_month_length, g_is_figures, g_int, g_is_day, g_month_number, g_MONTHS, g_lower_text, g_day_in, g_read_day, g_ascii_text, g_QueryFault, g_WireFault, g_QUOTE, g_BACKSLASH, g_CRLF, g_SPECIALS, g_MOST_COUNT_FIGURES, g_is_printable, g_is_atom_code, g_is_astring_code, g_is_figure, g_number_of_figures, g_bytes, g_bytearray, g_Wire, g_law_months, g_law_years, g_law_table, g_law_pick, g_law_long, g_law_due, g_law_heard, g_law_is_right, g_day_here, w_space, w_need, w_skip, w_fault, w_peek, w_astring, w_string_or, w_string, w_quoted, w_literal, w_run, w_split, w_lower, w_upper, w_pop, w_index, w_append, w_join]
    exact rfl

noncomputable def F264 : {f : Fn // ∀ P, cF (KP P) 264 = some f} := by
  refine ⟨?_, fun P => ?_⟩
  rotate_left
  · unfold cF
    rw [show (KP P).lookup 264 = some _ from by with_unfolding_all rfl]
    dsimp only
    rw [if_pos (by kernel_rfl)]
    simp [cSs, cS, cE, cEs, cO, cName, cConst, cBin, cCmp, ofString_inj, ofString_beq, fx_cons, lk_cons, locIx, cTargets, cSuite, cHandlers, swName, swOk, Expr.pos, foldedForSure, constantsAlone, isComp, isName, plainBase, compOk, toAV, cp_0, cp_1, cp_2, cp_3, cp_4, cp_5, cp_6, cp_7, cp_8, cp_9, cp_10, cp_11, cp_12, cp_13, cp_14, g_chr, g_lower_code, g_ord, g_range, g_len, g_WordFault, g_is_leap, g_MOST_YEAR, g_month_length, g_is_figures, g_int, g_is_day, g_month_number, g_MONTHS, g_lower_text, g_day_in, g_read_day, g_ascii_text, g_QueryFault, g_WireFault, g_QUOTE, g_BACKSLASH, g_CRLF, g_SPECIALS, g_MOST_COUNT_FIGURES, g_is_printable, g_is_atom_code, g_is_astring_code, g_is_figure, g_number_of_figures, g_bytes, g_bytearray, g_Wire, g_law_months, g_law_years, g_law_table, g_law_pick, g_law_long, g_law_due, g_law_heard, g_law_is_right, g_day_here, w_space, w_need, w_skip, w_fault, w_peek, w_astring, w_string_or, w_string, w_quoted, w_literal, w_run, w_split, w_lower, w_upper, w_pop, w_index, w_append, w_join]
    exact rfl

noncomputable def F285 : {f : Fn // ∀ P, cF (KP P) 285 = some f} := by
  refine ⟨?_, fun P => ?_⟩
  rotate_left
  · unfold cF
    rw [show (KP P).lookup 285 = some _ from by with_unfolding_all rfl]
    dsimp only
    rw [if_pos (by kernel_rfl)]
    simp [cSs, cS, cE, cEs, cO, cName, cConst, cBin, cCmp, ofString_inj, ofString_beq, fx_cons, lk_cons, locIx, cTargets, cSuite, cHandlers, swName, swOk, Expr.pos, foldedForSure, constantsAlone, isComp, isName, plainBase, compOk, toAV, cp_0, cp_1, cp_2, cp_3, cp_4, cp_5, cp_6, cp_7, cp_8, cp_9, cp_10, cp_11, cp_12, cp_13, cp_14, g_chr, g_lower_code, g_ord, g_range, g_len, g_WordFault, g_is_leap, g_MOST_YEAR, g_month_length, g_is_figures, g_int, g_is_day, g_month_number, g_MONTHS, g_lower_text, g_day_in, g_read_day, g_ascii_text, g_QueryFault, g_WireFault, g_QUOTE, g_BACKSLASH, g_CRLF, g_SPECIALS, g_MOST_COUNT_FIGURES, g_is_printable, g_is_atom_code, g_is_astring_code, g_is_figure, g_number_of_figures, g_bytes, g_bytearray, g_Wire, g_law_months, g_law_years, g_law_table, g_law_pick, g_law_long, g_law_due, g_law_heard, g_law_is_right, g_day_here, w_space, w_need, w_skip, w_fault, w_peek, w_astring, w_string_or, w_string, w_quoted, w_literal, w_run, w_split, w_lower, w_upper, w_pop, w_index, w_append, w_join]
    exact rfl

noncomputable def F299 : {f : Fn // ∀ P, cF (KP P) 299 = some f} := by
  refine ⟨?_, fun P => ?_⟩
  rotate_left
  · unfold cF
    rw [show (KP P).lookup 299 = some _ from by with_unfolding_all rfl]
    dsimp only
    rw [if_pos (by kernel_rfl)]
    simp [cSs, cS, cE, cEs, cO, cName, cConst, cBin, cCmp, ofString_inj, ofString_beq, fx_cons, lk_cons, locIx, cTargets, cSuite, cHandlers, swName, swOk, Expr.pos, foldedForSure, constantsAlone, isComp, isName, plainBase, compOk, toAV, cp_0, cp_1, cp_2, cp_3, cp_4, cp_5, cp_6, cp_7, cp_8, cp_9, cp_10, cp_11, cp_12, cp_13, cp_14, g_chr, g_lower_code, g_ord, g_range, g_len, g_WordFault, g_is_leap, g_MOST_YEAR, g_month_length, g_is_figures, g_int, g_is_day, g_month_number, g_MONTHS, g_lower_text, g_day_in, g_read_day, g_ascii_text, g_QueryFault, g_WireFault, g_QUOTE, g_BACKSLASH, g_CRLF, g_SPECIALS, g_MOST_COUNT_FIGURES, g_is_printable, g_is_atom_code, g_is_astring_code, g_is_figure, g_number_of_figures, g_bytes, g_bytearray, g_Wire, g_law_months, g_law_years, g_law_table, g_law_pick, g_law_long, g_law_due, g_law_heard, g_law_is_right, g_day_here, w_space, w_need, w_skip, w_fault, w_peek, w_astring, w_string_or, w_string, w_quoted, w_literal, w_run, w_split, w_lower, w_upper, w_pop, w_index, w_append, w_join]
    exact rfl

noncomputable def F257 : {f : Fn // ∀ P, cF (KP P) 257 = some f} := by
  refine ⟨?_, fun P => ?_⟩
  rotate_left
  · unfold cF
    rw [show (KP P).lookup 257 = some _ from by with_unfolding_all rfl]
    dsimp only
    rw [if_pos (by kernel_rfl)]
    simp [cSs, cS, cE, cEs, cO, cName, cConst, cBin, cCmp, ofString_inj, ofString_beq, fx_cons, lk_cons, locIx, cTargets, cSuite, cHandlers, swName, swOk, Expr.pos, foldedForSure, constantsAlone, isComp, isName, plainBase, compOk, toAV, cp_0, cp_1, cp_2, cp_3, cp_4, cp_5, cp_6, cp_7, cp_8, cp_9, cp_10, cp_11, cp_12, cp_13, cp_14, g_chr, g_lower_code, g_ord, g_range, g_len, g_WordFault, g_is_leap, g_MOST_YEAR, g_month_length, g_is_figures, g_int, g_is_day, g_month_number, g_MONTHS, g_lower_text, g_day_in, g_read_day, g_ascii_text, g_QueryFault, g_WireFault, g_QUOTE, g_BACKSLASH, g_CRLF, g_SPECIALS, g_MOST_COUNT_FIGURES, g_is_printable, g_is_atom_code, g_is_astring_code, g_is_figure, g_number_of_figures, g_bytes, g_bytearray, g_Wire, g_law_months, g_law_years, g_law_table, g_law_pick, g_law_long, g_law_due, g_law_heard, g_law_is_right, g_day_here, w_space, w_need, w_skip, w_fault, w_peek, w_astring, w_string_or, w_string, w_quoted, w_literal, w_run, w_split, w_lower, w_upper, w_pop, w_index, w_append, w_join]
    exact rfl

noncomputable def F369 : {f : Fn // ∀ P, cF (KP P) 369 = some f} := by
  refine ⟨?_, fun P => ?_⟩
  rotate_left
  · unfold cF
    rw [show (KP P).lookup 369 = some _ from by with_unfolding_all rfl]
    dsimp only
    rw [if_pos (by kernel_rfl)]
    simp [cSs, cS, cE, cEs, cO, cName, cConst, cBin, cCmp, ofString_inj, ofString_beq, fx_cons, lk_cons, locIx, cTargets, cSuite, cHandlers, swName, swOk, Expr.pos, foldedForSure, constantsAlone, isComp, isName, plainBase, compOk, toAV, cp_0, cp_1, cp_2, cp_3, cp_4, cp_5, cp_6, cp_7, cp_8, cp_9, cp_10, cp_11, cp_12, cp_13, cp_14, g_chr, g_lower_code, g_ord, g_range, g_len, g_WordFault, g_is_leap, g_MOST_YEAR, g_month_length, g_is_figures, g_int, g_is_day, g_month_number, g_MONTHS, g_lower_text, g_day_in, g_read_day, g_ascii_text, g_QueryFault, g_WireFault, g_QUOTE, g_BACKSLASH, g_CRLF, g_SPECIALS, g_MOST_COUNT_FIGURES, g_is_printable, g_is_atom_code, g_is_astring_code, g_is_figure, g_number_of_figures, g_bytes, g_bytearray, g_Wire, g_law_months, g_law_years, g_law_table, g_law_pick, g_law_long, g_law_due, g_law_heard, g_law_is_right, g_day_here, w_space, w_need, w_skip, w_fault, w_peek, w_astring, w_string_or, w_string, w_quoted, w_literal, w_run, w_split, w_lower, w_upper, w_pop, w_index, w_append, w_join]
    exact rfl

noncomputable def F376 : {f : Fn // ∀ P, cF (KP P) 376 = some f} := by
  refine ⟨?_, fun P => ?_⟩
  rotate_left
  · unfold cF
    rw [show (KP P).lookup 376 = some _ from by with_unfolding_all rfl]
    dsimp only
    rw [if_pos (by kernel_rfl)]
    simp [cSs, cS, cE, cEs, cO, cName, cConst, cBin, cCmp, ofString_inj, ofString_beq, fx_cons, lk_cons, locIx, cTargets, cSuite, cHandlers, swName, swOk, Expr.pos, foldedForSure, constantsAlone, isComp, isName, plainBase, compOk, toAV, cp_0, cp_1, cp_2, cp_3, cp_4, cp_5, cp_6, cp_7, cp_8, cp_9, cp_10, cp_11, cp_12, cp_13, cp_14, g_chr, g_lower_code, g_ord, g_range, g_len, g_WordFault, g_is_leap, g_MOST_YEAR, g_month_length, g_is_figures, g_int, g_is_day, g_month_number, g_MONTHS, g_lower_text, g_day_in, g_read_day, g_ascii_text, g_QueryFault, g_WireFault, g_QUOTE, g_BACKSLASH, g_CRLF, g_SPECIALS, g_MOST_COUNT_FIGURES, g_is_printable, g_is_atom_code, g_is_astring_code, g_is_figure, g_number_of_figures, g_bytes, g_bytearray, g_Wire, g_law_months, g_law_years, g_law_table, g_law_pick, g_law_long, g_law_due, g_law_heard, g_law_is_right, g_day_here, w_space, w_need, w_skip, w_fault, w_peek, w_astring, w_string_or, w_string, w_quoted, w_literal, w_run, w_split, w_lower, w_upper, w_pop, w_index, w_append, w_join]
    exact rfl

noncomputable def F383 : {f : Fn // ∀ P, cF (KP P) 383 = some f} := by
  refine ⟨?_, fun P => ?_⟩
  rotate_left
  · unfold cF
    rw [show (KP P).lookup 383 = some _ from by with_unfolding_all rfl]
    dsimp only
    rw [if_pos (by kernel_rfl)]
    simp [cSs, cS, cE, cEs, cO, cName, cConst, cBin, cCmp, ofString_inj, ofString_beq, fx_cons, lk_cons, locIx, cTargets, cSuite, cHandlers, swName, swOk, Expr.pos, foldedForSure, constantsAlone, isComp, isName, plainBase, compOk, toAV, cp_0, cp_1, cp_2, cp_3, cp_4, cp_5, cp_6, cp_7, cp_8, cp_9, cp_10, cp_11, cp_12, cp_13, cp_14, g_chr, g_lower_code, g_ord, g_range, g_len, g_WordFault, g_is_leap, g_MOST_YEAR, g_month_length, g_is_figures, g_int, g_is_day, g_month_number, g_MONTHS, g_lower_text, g_day_in, g_read_day, g_ascii_text, g_QueryFault, g_WireFault, g_QUOTE, g_BACKSLASH, g_CRLF, g_SPECIALS, g_MOST_COUNT_FIGURES, g_is_printable, g_is_atom_code, g_is_astring_code, g_is_figure, g_number_of_figures, g_bytes, g_bytearray, g_Wire, g_law_months, g_law_years, g_law_table, g_law_pick, g_law_long, g_law_due, g_law_heard, g_law_is_right, g_day_here, w_space, w_need, w_skip, w_fault, w_peek, w_astring, w_string_or, w_string, w_quoted, w_literal, w_run, w_split, w_lower, w_upper, w_pop, w_index, w_append, w_join]
    exact rfl

noncomputable def F355 : {f : Fn // ∀ P, cF (KP P) 355 = some f} := by
  refine ⟨?_, fun P => ?_⟩
  rotate_left
  · unfold cF
    rw [show (KP P).lookup 355 = some _ from by with_unfolding_all rfl]
    dsimp only
    rw [if_pos (by kernel_rfl)]
    simp [cSs, cS, cE, cEs, cO, cName, cConst, cBin, cCmp, ofString_inj, ofString_beq, fx_cons, lk_cons, locIx, cTargets, cSuite, cHandlers, swName, swOk, Expr.pos, foldedForSure, constantsAlone, isComp, isName, plainBase, compOk, toAV, cp_0, cp_1, cp_2, cp_3, cp_4, cp_5, cp_6, cp_7, cp_8, cp_9, cp_10, cp_11, cp_12, cp_13, cp_14, g_chr, g_lower_code, g_ord, g_range, g_len, g_WordFault, g_is_leap, g_MOST_YEAR, g_month_length, g_is_figures, g_int, g_is_day, g_month_number, g_MONTHS, g_lower_text, g_day_in, g_read_day, g_ascii_text, g_QueryFault, g_WireFault, g_QUOTE, g_BACKSLASH, g_CRLF, g_SPECIALS, g_MOST_COUNT_FIGURES, g_is_printable, g_is_atom_code, g_is_astring_code, g_is_figure, g_number_of_figures, g_bytes, g_bytearray, g_Wire, g_law_months, g_law_years, g_law_table, g_law_pick, g_law_long, g_law_due, g_law_heard, g_law_is_right, g_day_here, w_space, w_need, w_skip, w_fault, w_peek, w_astring, w_string_or, w_string, w_quoted, w_literal, w_run, w_split, w_lower, w_upper, w_pop, w_index, w_append, w_join]
    exact rfl

noncomputable def F362 : {f : Fn // ∀ P, cF (KP P) 362 = some f} := by
  refine ⟨?_, fun P => ?_⟩
  rotate_left
  · unfold cF
    rw [show (KP P).lookup 362 = some _ from by with_unfolding_all rfl]
    dsimp only
    rw [if_pos (by kernel_rfl)]
    simp [cSs, cS, cE, cEs, cO, cName, cConst, cBin, cCmp, ofString_inj, ofString_beq, fx_cons, lk_cons, locIx, cTargets, cSuite, cHandlers, swName, swOk, Expr.pos, foldedForSure, constantsAlone, isComp, isName, plainBase, compOk, toAV, cp_0, cp_1, cp_2, cp_3, cp_4, cp_5, cp_6, cp_7, cp_8, cp_9, cp_10, cp_11, cp_12, cp_13, cp_14, g_chr, g_lower_code, g_ord, g_range, g_len, g_WordFault, g_is_leap, g_MOST_YEAR, g_month_length, g_is_figures, g_int, g_is_day, g_month_number, g_MONTHS, g_lower_text, g_day_in, g_read_day, g_ascii_text, g_QueryFault, g_WireFault, g_QUOTE, g_BACKSLASH, g_CRLF, g_SPECIALS, g_MOST_COUNT_FIGURES, g_is_printable, g_is_atom_code, g_is_astring_code, g_is_figure, g_number_of_figures, g_bytes, g_bytearray, g_Wire, g_law_months, g_law_years, g_law_table, g_law_pick, g_law_long, g_law_due, g_law_heard, g_law_is_right, g_day_here, w_space, w_need, w_skip, w_fault, w_peek, w_astring, w_string_or, w_string, w_quoted, w_literal, w_run, w_split, w_lower, w_upper, w_pop, w_index, w_append, w_join]
    exact rfl
end Mine
end

section
open PySem PySem.W PyProof.Rows
set_option maxRecDepth 100000
set_option linter.unusedSimpArgs false
set_option linter.unusedVariables false
set_option maxHeartbeats 1000000
namespace Mine
section
variable {α β : Type}
theorem bnd_ok {a : α} {σ : List TO} {f : α → List TO → R β} : bnd (some (.ok a, σ)) f = f a σ := rfl
theorem bnd_exc {i : Nat} {σ : List TO} {f : α → List TO → R β} : bnd (some (.exc i, σ)) f = some (.exc i, σ) := rfl
theorem stm_ok {a : α} {m : Lo} {σ : List TO} {F : α → List TO → RS} : stm (some (.ok a, σ)) m F = F a σ := rfl
theorem stm_exc {i : Nat} {m : Lo} {σ : List TO} {F : α → List TO → RS} : stm (some (.exc i, σ)) m F = some (.exc i, m, σ) := rfl
theorem optv {a : α} {σ : List TO} : opt (some a) σ = some (.ok a, σ) := rfl
theorem getL (l l' : List α) (k : Nat) : (l ++ l')[l.length + k]? = l'[k]? := by rw [List.getElem?_append_right (by omega)]; congr 1; omega
theorem getL0 (l l' : List α) : (l ++ l')[l.length]? = l'[0]? := getL l l' 0
theorem setL (l l' : List α) (k : Nat) (x : α) : (l ++ l').set (l.length + k) x = l ++ l'.set k x := by rw [List.set_append, if_neg (by omega)]; congr 2; omega
theorem setL0 (l l' : List α) (x : α) : (l ++ l').set l.length x = l ++ l'.set 0 x := setL l l' 0 x
theorem takeL (l l' : List α) : (l ++ l').take l.length = l := by simp
theorem takeLk (l l' : List α) (k : Nat) : (l ++ l').take (l.length + k) = l ++ l'.take k := by rw [List.take_append, List.take_of_length_le (by omega)]; congr 2; omega
theorem takeS (l : List α) : l.take l.length = l := by simp
end
section
variable (P : Params) (n d : Nat) (m : Lo) (σ : List TO)
noncomputable abbrev evf (P : Params) (n d : Nat) (a : Addr) (as : List AV) (σ : List TO) : R AV := evFn (KP P) (cF (KP P)) n d a as σ

theorem eq_int {K : Frag} {a b : Int} : eqA K σ (.int a) (.int b) = some (decide (a = b)) := by
  simp [eqA, dataTop, dataT, SeqAt.shaped, PyData.eqv, PyData.canLay0, PyData.depth]
  rfl
theorem eq_str {K : Frag} {a b : List Nat} : eqA K σ (.str a) (.str b) = some (a == b) := rfl
theorem eq_bytes {K : Frag} {a b : List UInt8} : eqA K σ (.bytes a) (.bytes b) = some (a == b) := rfl
theorem q92 (c : Nat) : evf P (n + 30) (d + 1) 92 [.int c] σ = some (.ok (.int (lowerN c : Nat)), σ) := by
  rw [evf, evFn_s, F92.2]
  dsimp only [F92]
  by_cases h1 : 65 ≤ (c : Int) <;> by_cases h2 : (c : Int) ≤ 90 <;>
    simp [-bnd, -stm, -opt, -mk, evSs_nil, evSs_cons, evS_asg, evS_asgC, evS_asgAt, evS_asgT, evS_expr, evS_ret, evS_ite, evS_raise, evS_try, evE_const, evE_var, evE_not, evE_and, evE_or, evE_ite, evE_bin, evE_cmp, evE_cmp2, evE_call, evE_meth, evE_at, evE_data, evE_sub, evE_slice, evE_tup, evE_list, evE_comp, evT_s, evAll_nil, evAll_cons, evEs_nil, evEs_cons, evO_none, evO_some, evCall_b, evCall_t, evCall_r, evHs, cmpA, binA, bnd_ok, bnd_exc, stm_ok, stm_exc, optv, AV.free, AV.frees, wireC, kindT, eq_int, eq_str, eq_bytes, getL, getL0, setL, setL0, takeL, takeS, takeLk, h1, h2, lowerN] <;> (try split) <;> (try omega)
noncomputable def leapI (y : Int) : Bool := decide (y.fmod 4 = 0) && (decide (y.fmod 100 ≠ 0) || decide (y.fmod 400 = 0))
noncomputable def longI (y m : Int) : Int := if m = 2 then (if leapI y then 29 else 28) else if m = 4 ∨ m = 6 ∨ m = 9 ∨ m = 11 then 30 else 31
theorem q120 (y : Int) : evf P (n + 30) (d + 1) 120 [.int y] σ = some (.ok (.bool (leapI y)), σ) := by
  rw [evf, evFn_s, F120.2]
  dsimp only [F120]
  by_cases h1 : y.fmod 4 = 0 <;> by_cases h2 : y.fmod 100 = 0 <;> by_cases h3 : y.fmod 400 = 0 <;>
    simp [-bnd, -stm, -opt, -mk, evSs_nil, evSs_cons, evS_asg, evS_asgC, evS_asgAt, evS_asgT, evS_expr, evS_ret, evS_ite, evS_raise, evS_try, evE_const, evE_var, evE_not, evE_and, evE_or, evE_ite, evE_bin, evE_cmp, evE_cmp2, evE_call, evE_meth, evE_at, evE_data, evE_sub, evE_slice, evE_tup, evE_list, evE_comp, evT_s, evAll_nil, evAll_cons, evEs_nil, evEs_cons, evO_none, evO_some, evCall_b, evCall_t, evCall_r, evHs, cmpA, binA, bnd_ok, bnd_exc, stm_ok, stm_exc, optv, AV.free, AV.frees, wireC, kindT, eq_int, eq_str, eq_bytes, getL, getL0, setL, setL0, takeL, takeS, takeLk, h1, h2, h3, leapI]
theorem q127 (y k : Int) : evf P (n + 60) (d + 2) 127 [.int y, .int k] σ = some (.ok (.int (longI y k)), σ) := by
  rw [evf, evFn_s, F127.2]
  dsimp only [F127]
  by_cases h0 : k = 2
  · cases hl : leapI y <;> simp [-bnd, -stm, -opt, -mk, evSs_nil, evSs_cons, evS_asg, evS_asgC, evS_asgAt, evS_asgT, evS_expr, evS_ret, evS_ite, evS_raise, evS_try, evE_const, evE_var, evE_not, evE_and, evE_or, evE_ite, evE_bin, evE_cmp, evE_cmp2, evE_call, evE_meth, evE_at, evE_data, evE_sub, evE_slice, evE_tup, evE_list, evE_comp, evT_s, evAll_nil, evAll_cons, evEs_nil, evEs_cons, evO_none, evO_some, evCall_b, evCall_t, evCall_r, evHs, cmpA, binA, bnd_ok, bnd_exc, stm_ok, stm_exc, optv, AV.free, AV.frees, wireC, kindT, eq_int, eq_str, eq_bytes, getL, getL0, setL, setL0, takeL, takeS, takeLk, h0, q120, hl, longI]
  · by_cases h1 : k = 4 ∨ k = 6 ∨ k = 9 ∨ k = 11
    · have h1' : 4 = k ∨ 6 = k ∨ 9 = k ∨ 11 = k := by omega
      simp [-bnd, -stm, -opt, -mk, evSs_nil, evSs_cons, evS_asg, evS_asgC, evS_asgAt, evS_asgT, evS_expr, evS_ret, evS_ite, evS_raise, evS_try, evE_const, evE_var, evE_not, evE_and, evE_or, evE_ite, evE_bin, evE_cmp, evE_cmp2, evE_call, evE_meth, evE_at, evE_data, evE_sub, evE_slice, evE_tup, evE_list, evE_comp, evT_s, evAll_nil, evAll_cons, evEs_nil, evEs_cons, evO_none, evO_some, evCall_b, evCall_t, evCall_r, evHs, cmpA, binA, bnd_ok, bnd_exc, stm_ok, stm_exc, optv, AV.free, AV.frees, wireC, kindT, eq_int, eq_str, eq_bytes, getL, getL0, setL, setL0, takeL, takeS, takeLk, h0, longI, inA, tupItems, intsOf, h1, h1']
    · have h1' : ¬ (4 = k ∨ 6 = k ∨ 9 = k ∨ 11 = k) := by omega
      simp only [not_or] at h1 h1'
      simp [-bnd, -stm, -opt, -mk, evSs_nil, evSs_cons, evS_asg, evS_asgC, evS_asgAt, evS_asgT, evS_expr, evS_ret, evS_ite, evS_raise, evS_try, evE_const, evE_var, evE_not, evE_and, evE_or, evE_ite, evE_bin, evE_cmp, evE_cmp2, evE_call, evE_meth, evE_at, evE_data, evE_sub, evE_slice, evE_tup, evE_list, evE_comp, evT_s, evAll_nil, evAll_cons, evEs_nil, evEs_cons, evO_none, evO_some, evCall_b, evCall_t, evCall_r, evHs, cmpA, binA, bnd_ok, bnd_exc, stm_ok, stm_exc, optv, AV.free, AV.frees, wireC, kindT, eq_int, eq_str, eq_bytes, getL, getL0, setL, setL0, takeL, takeS, takeLk, h0, longI, inA, tupItems, intsOf, h1, h1']
theorem q461 (y k : Int) : evf P (n + 60) (d + 1) 461 [.int y, .int k] σ = some (.ok (.int (longI y k)), σ) := by
  rw [evf, evFn_s, F461.2]
  dsimp only [F461]
  by_cases h0 : k = 2
  · by_cases h1 : y.fmod 4 = 0 <;> by_cases h2 : y.fmod 100 = 0 <;> by_cases h3 : y.fmod 400 = 0 <;>
      simp [-bnd, -stm, -opt, -mk, evSs_nil, evSs_cons, evS_asg, evS_asgC, evS_asgAt, evS_asgT, evS_expr, evS_ret, evS_ite, evS_raise, evS_try, evE_const, evE_var, evE_not, evE_and, evE_or, evE_ite, evE_bin, evE_cmp, evE_cmp2, evE_call, evE_meth, evE_at, evE_data, evE_sub, evE_slice, evE_tup, evE_list, evE_comp, evT_s, evAll_nil, evAll_cons, evEs_nil, evEs_cons, evO_none, evO_some, evCall_b, evCall_t, evCall_r, evHs, cmpA, binA, bnd_ok, bnd_exc, stm_ok, stm_exc, optv, AV.free, AV.frees, wireC, kindT, eq_int, eq_str, eq_bytes, getL, getL0, setL, setL0, takeL, takeS, takeLk, h0, h1, h2, h3, leapI, longI]
  · by_cases h1 : k = 4 ∨ k = 6 ∨ k = 9 ∨ k = 11
    · have h1' : 4 = k ∨ 6 = k ∨ 9 = k ∨ 11 = k := by omega
      simp [-bnd, -stm, -opt, -mk, evSs_nil, evSs_cons, evS_asg, evS_asgC, evS_asgAt, evS_asgT, evS_expr, evS_ret, evS_ite, evS_raise, evS_try, evE_const, evE_var, evE_not, evE_and, evE_or, evE_ite, evE_bin, evE_cmp, evE_cmp2, evE_call, evE_meth, evE_at, evE_data, evE_sub, evE_slice, evE_tup, evE_list, evE_comp, evT_s, evAll_nil, evAll_cons, evEs_nil, evEs_cons, evO_none, evO_some, evCall_b, evCall_t, evCall_r, evHs, cmpA, binA, bnd_ok, bnd_exc, stm_ok, stm_exc, optv, AV.free, AV.frees, wireC, kindT, eq_int, eq_str, eq_bytes, getL, getL0, setL, setL0, takeL, takeS, takeLk, h0, longI, inA, tupItems, intsOf, h1, h1']
    · have h1' : ¬ (4 = k ∨ 6 = k ∨ 9 = k ∨ 11 = k) := by omega
      simp only [not_or] at h1 h1'
      simp [-bnd, -stm, -opt, -mk, evSs_nil, evSs_cons, evS_asg, evS_asgC, evS_asgAt, evS_asgT, evS_expr, evS_ret, evS_ite, evS_raise, evS_try, evE_const, evE_var, evE_not, evE_and, evE_or, evE_ite, evE_bin, evE_cmp, evE_cmp2, evE_call, evE_meth, evE_at, evE_data, evE_sub, evE_slice, evE_tup, evE_list, evE_comp, evT_s, evAll_nil, evAll_cons, evEs_nil, evEs_cons, evO_none, evO_some, evCall_b, evCall_t, evCall_r, evHs, cmpA, binA, bnd_ok, bnd_exc, stm_ok, stm_exc, optv, AV.free, AV.frees, wireC, kindT, eq_int, eq_str, eq_bytes, getL, getL0, setL, setL0, takeL, takeS, takeLk, h0, longI, inA, tupItems, intsOf, h1, h1']
noncomputable def dayI (y k b : Int) : Bool := decide (1 ≤ y) && decide (y ≤ 9999) && (decide (1 ≤ k) && decide (k ≤ 12)) && (decide (1 ≤ b) && decide (b ≤ longI y k))
theorem q134 (y k b : Int) : evf P (n + 90) (d + 3) 134 [.int y, .int k, .int b] σ = some (.ok (.bool (dayI y k b)), σ) := by
  rw [evf, evFn_s, F134.2]
  dsimp only [F134]
  by_cases h1 : 1 ≤ y
  rotate_left
  · simp [-bnd, -stm, -opt, -mk, evSs_nil, evSs_cons, evS_asg, evS_asgC, evS_asgAt, evS_asgT, evS_expr, evS_ret, evS_ite, evS_raise, evS_try, evE_const, evE_var, evE_not, evE_and, evE_or, evE_ite, evE_bin, evE_cmp, evE_cmp2, evE_call, evE_meth, evE_at, evE_data, evE_sub, evE_slice, evE_tup, evE_list, evE_comp, evT_s, evAll_nil, evAll_cons, evEs_nil, evEs_cons, evO_none, evO_some, evCall_b, evCall_t, evCall_r, evHs, cmpA, binA, bnd_ok, bnd_exc, stm_ok, stm_exc, optv, AV.free, AV.frees, wireC, kindT, eq_int, eq_str, eq_bytes, getL, getL0, setL, setL0, takeL, takeS, takeLk, h1, q127, dayI]
  by_cases h2 : y ≤ 9999
  rotate_left
  · simp [-bnd, -stm, -opt, -mk, evSs_nil, evSs_cons, evS_asg, evS_asgC, evS_asgAt, evS_asgT, evS_expr, evS_ret, evS_ite, evS_raise, evS_try, evE_const, evE_var, evE_not, evE_and, evE_or, evE_ite, evE_bin, evE_cmp, evE_cmp2, evE_call, evE_meth, evE_at, evE_data, evE_sub, evE_slice, evE_tup, evE_list, evE_comp, evT_s, evAll_nil, evAll_cons, evEs_nil, evEs_cons, evO_none, evO_some, evCall_b, evCall_t, evCall_r, evHs, cmpA, binA, bnd_ok, bnd_exc, stm_ok, stm_exc, optv, AV.free, AV.frees, wireC, kindT, eq_int, eq_str, eq_bytes, getL, getL0, setL, setL0, takeL, takeS, takeLk, h1, h2, q127, dayI]
  by_cases h3 : 1 ≤ k
  rotate_left
  · simp [-bnd, -stm, -opt, -mk, evSs_nil, evSs_cons, evS_asg, evS_asgC, evS_asgAt, evS_asgT, evS_expr, evS_ret, evS_ite, evS_raise, evS_try, evE_const, evE_var, evE_not, evE_and, evE_or, evE_ite, evE_bin, evE_cmp, evE_cmp2, evE_call, evE_meth, evE_at, evE_data, evE_sub, evE_slice, evE_tup, evE_list, evE_comp, evT_s, evAll_nil, evAll_cons, evEs_nil, evEs_cons, evO_none, evO_some, evCall_b, evCall_t, evCall_r, evHs, cmpA, binA, bnd_ok, bnd_exc, stm_ok, stm_exc, optv, AV.free, AV.frees, wireC, kindT, eq_int, eq_str, eq_bytes, getL, getL0, setL, setL0, takeL, takeS, takeLk, h1, h2, h3, q127, dayI]
  by_cases h4 : k ≤ 12
  rotate_left
  · simp [-bnd, -stm, -opt, -mk, evSs_nil, evSs_cons, evS_asg, evS_asgC, evS_asgAt, evS_asgT, evS_expr, evS_ret, evS_ite, evS_raise, evS_try, evE_const, evE_var, evE_not, evE_and, evE_or, evE_ite, evE_bin, evE_cmp, evE_cmp2, evE_call, evE_meth, evE_at, evE_data, evE_sub, evE_slice, evE_tup, evE_list, evE_comp, evT_s, evAll_nil, evAll_cons, evEs_nil, evEs_cons, evO_none, evO_some, evCall_b, evCall_t, evCall_r, evHs, cmpA, binA, bnd_ok, bnd_exc, stm_ok, stm_exc, optv, AV.free, AV.frees, wireC, kindT, eq_int, eq_str, eq_bytes, getL, getL0, setL, setL0, takeL, takeS, takeLk, h1, h2, h3, h4, q127, dayI]
  by_cases h5 : 1 ≤ b
  rotate_left
  · simp [-bnd, -stm, -opt, -mk, evSs_nil, evSs_cons, evS_asg, evS_asgC, evS_asgAt, evS_asgT, evS_expr, evS_ret, evS_ite, evS_raise, evS_try, evE_const, evE_var, evE_not, evE_and, evE_or, evE_ite, evE_bin, evE_cmp, evE_cmp2, evE_call, evE_meth, evE_at, evE_data, evE_sub, evE_slice, evE_tup, evE_list, evE_comp, evT_s, evAll_nil, evAll_cons, evEs_nil, evEs_cons, evO_none, evO_some, evCall_b, evCall_t, evCall_r, evHs, cmpA, binA, bnd_ok, bnd_exc, stm_ok, stm_exc, optv, AV.free, AV.frees, wireC, kindT, eq_int, eq_str, eq_bytes, getL, getL0, setL, setL0, takeL, takeS, takeLk, h1, h2, h3, h4, h5, q127, dayI]
  by_cases h6 : b ≤ longI y k
  rotate_left
  · simp [-bnd, -stm, -opt, -mk, evSs_nil, evSs_cons, evS_asg, evS_asgC, evS_asgAt, evS_asgT, evS_expr, evS_ret, evS_ite, evS_raise, evS_try, evE_const, evE_var, evE_not, evE_and, evE_or, evE_ite, evE_bin, evE_cmp, evE_cmp2, evE_call, evE_meth, evE_at, evE_data, evE_sub, evE_slice, evE_tup, evE_list, evE_comp, evT_s, evAll_nil, evAll_cons, evEs_nil, evEs_cons, evO_none, evO_some, evCall_b, evCall_t, evCall_r, evHs, cmpA, binA, bnd_ok, bnd_exc, stm_ok, stm_exc, optv, AV.free, AV.frees, wireC, kindT, eq_int, eq_str, eq_bytes, getL, getL0, setL, setL0, takeL, takeS, takeLk, h1, h2, h3, h4, h5, h6, q127, dayI]
  simp [-bnd, -stm, -opt, -mk, evSs_nil, evSs_cons, evS_asg, evS_asgC, evS_asgAt, evS_asgT, evS_expr, evS_ret, evS_ite, evS_raise, evS_try, evE_const, evE_var, evE_not, evE_and, evE_or, evE_ite, evE_bin, evE_cmp, evE_cmp2, evE_call, evE_meth, evE_at, evE_data, evE_sub, evE_slice, evE_tup, evE_list, evE_comp, evT_s, evAll_nil, evAll_cons, evEs_nil, evEs_cons, evO_none, evO_some, evCall_b, evCall_t, evCall_r, evHs, cmpA, binA, bnd_ok, bnd_exc, stm_ok, stm_exc, optv, AV.free, AV.frees, wireC, kindT, eq_int, eq_str, eq_bytes, getL, getL0, setL, setL0, takeL, takeS, takeLk, h1, h2, h3, h4, h5, h6, q127, dayI]
end
end Mine
end

section
open PySem PySem.W PyProof.Rows
set_option maxRecDepth 100000
set_option linter.unusedSimpArgs false
set_option linter.unusedVariables false
namespace Mine
section
variable {K : Frag} {FT : Addr → Option Fn} {d : Nat} {m : Lo} {σ : List TO}
theorem comp_map {f : AV → AV} {el : IE} {c : Nat} : ∀ {vs : List AV}, (∀ v ∈ vs, ∀ k, c ≤ k → evE K FT k d [some v] el σ = some (.ok (f v), σ)) → ∀ {k}, vs.length + c + 1 ≤ k → evComp K FT k d el none vs σ = some (.ok (vs.map f), σ)
  | [], _, k, hk => by
    obtain ⟨k, rfl⟩ : ∃ j, k = j + 1 := ⟨k - 1, by omega⟩
    rw [evComp_nil]; rfl
  | v :: vs, h, k, hk => by
    simp only [List.length_cons] at hk
    obtain ⟨k, rfl⟩ : ∃ j, k = j + 1 + 1 := ⟨k - 2, by omega⟩
    rw [evComp_cons, evTO_none]
    simp only [ret]
    rw [h v (.head _) (k + 1) (by omega)]
    dsimp only
    rw [comp_map (fun v hv => h v (.tail _ hv)) (by omega)]
    rfl
theorem comp_filter {f : AV → AV} {p : AV → Bool} {el t : IE} {c : Nat} : ∀ {vs : List AV}, (∀ v ∈ vs, ∀ k, c ≤ k → evT K FT k d [some v] t σ = some (.ok (p v), σ)) → (∀ v ∈ vs, ∀ k, c ≤ k → evE K FT k d [some v] el σ = some (.ok (f v), σ)) → ∀ {k}, vs.length + c + 1 ≤ k → evComp K FT k d el (some t) vs σ = some (.ok ((vs.filter p).map f), σ)
  | [], _, _, k, hk => by
    obtain ⟨k, rfl⟩ : ∃ j, k = j + 1 := ⟨k - 1, by omega⟩
    rw [evComp_nil]; rfl
  | v :: vs, ht, h, k, hk => by
    simp only [List.length_cons] at hk
    obtain ⟨k, rfl⟩ : ∃ j, k = j + 1 + 1 := ⟨k - 2, by omega⟩
    rw [evComp_cons, evTO_some, ht v (.head _) k (by omega), List.filter_cons]
    cases p v
    · dsimp only
      rw [comp_filter (fun v hv => ht v (.tail _ hv)) (fun v hv => h v (.tail _ hv)) (by omega)]
      rfl
    · dsimp only
      rw [h v (.head _) (k + 1) (by omega)]
      dsimp only
      rw [comp_filter (fun v hv => ht v (.tail _ hv)) (fun v hv => h v (.tail _ hv)) (by omega)]
      rfl
end
section
variable {K : Frag} {σ : List TO}
theorem eq_loc {i j : Nat} : eqA K σ (.loc i) (.loc j) = match σ[i]?, σ[j]? with
    | some (.list vs), some (.list []) => if vs.all plainA then some vs.isEmpty else none
    | _, _ => none := rfl
theorem ti_tup {vs : List AV} : tupItems K (.tup vs) = some vs := rfl
theorem mb_join {i : Nat} : methB K σ .join (.str []) [.loc i] = match σ[i]? with
    | some (.list vs) => opt (joinA vs) σ
    | _ => none := rfl
theorem mb_split {s : List Nat} {c : Nat} : methB K σ .split (.str s) [.str [c]] = if s.length ≤ 100000 then mk (.list ((splitL c s).map .str)) σ else none := rfl
theorem mb_lower {s : List Nat} : methB K σ .lower (.str s) [] = if ascii s = true ∧ s.length ≤ 100000 then ret (.str (s.map lowerN)) σ else none := rfl
theorem mb_upper {s : List Nat} : methB K σ .upper (.str s) [] = if ascii s = true ∧ s.length ≤ 100000 then ret (.str (s.map upperN)) σ else none := rfl
theorem mb_pop {i : Nat} : methB K σ .pop (.loc i) [.int 0] = match σ[i]? with
    | some (.list (v :: vs)) => if vs.length ≤ 100000 then ret v (σ.set i (.list vs)) else none
    | _ => none := rfl
theorem mb_indexL {i : Nat} {s : List Nat} : methB K σ .index (.loc i) [.str s] = match σ[i]? with
    | some (.list vs) => if vs.length ≤ 100000 then opt ((strsOf vs).bind fun l => (l.findIdx? (· == s)).map fun (k : Nat) => AV.int (k : Int)) σ else none
    | _ => none := rfl
theorem mb_indexV {v : Value} {s : List Nat} : methB K σ .index (.val v) [.str s] = opt ((tupItems K (.val v)).bind fun vs => (strsOf vs).bind fun l => (l.findIdx? (· == s)).map fun (k : Nat) => AV.int (k : Int)) σ := rfl
theorem mb_append {i : Nat} {c : Int} : methB K σ .append (.loc i) [.int c] = match σ[i]? with
    | some (.barr b) => if 0 ≤ c ∧ c < 256 ∧ b.length ≤ 100000 then ret .none (σ.set i (.barr (b ++ [UInt8.ofNat c.toNat]))) else none
    | _ => none := rfl
theorem cb_lenS {s : List Nat} : callB σ (.builtin "len") [.str s] = if s.length ≤ 100000 then ret (.int s.length) σ else none := by unfold callB; rw [if_pos rfl]
theorem cb_lenB {s : List UInt8} : callB σ (.builtin "len") [.bytes s] = if s.length ≤ 100000 then ret (.int s.length) σ else none := by unfold callB; rw [if_pos rfl]
theorem cb_lenL {i : Nat} : callB σ (.builtin "len") [.loc i] = match σ[i]? with
      | some (.list vs) => if vs.length ≤ 100000 then ret (.int vs.length) σ else none
      | _ => none := by unfold callB; rw [if_pos rfl] <;> rfl
theorem cb_ord {c : Nat} : callB σ (.builtin "ord") [.str [c]] = ret (.int c) σ := by simp [callB]
theorem cb_chr {c : Int} : callB σ (.builtin "chr") [.int c] = if 0 ≤ c ∧ c < 256 then ret (.str [c.toNat]) σ else none := by simp [callB]
theorem cb_bytesB {b : List UInt8} : callB σ (.type "bytes") [.bytes b] = ret (.bytes b) σ := by simp [callB]
theorem cb_bytesL {i : Nat} : callB σ (.type "bytes") [.loc i] = match σ[i]? with
      | some (.list vs) => opt ((intsOf vs).bind bytesOfInts) σ
      | some (.barr b) => if b.length ≤ 100000 then ret (.bytes b) σ else none
      | _ => none := by unfold callB; rw [if_neg (by simp), if_neg (by simp), if_neg (by simp), if_pos rfl] <;> rfl
theorem cb_barr : callB σ (.type "bytearray") [] = mk (.barr []) σ := by simp [callB]
theorem cb_intS {s : List Nat} : callB σ (.type "int") [.str s] = if figs s = true ∧ s.length ≤ 100 then ret (.int (figVal s)) σ else none := by simp [callB]
theorem cb_intI {i : Int} : callB σ (.type "int") [.int i] = ret (.int i) σ := by simp [callB]
end
theorem frees_map {α : Type} {g : α → AV} (h : ∀ c, (g c).free = true) : ∀ l : List α, AV.frees (l.map g) = true
  | [] => rfl
  | c :: l => by rw [List.map_cons, AV.frees, h c, frees_map h l]; rfl
theorem strsOf_map {α : Type} {g : α → List Nat} : ∀ l : List α, strsOf (l.map fun c => .str (g c)) = some (l.map g)
  | [] => rfl
  | c :: l => by rw [List.map_cons, strsOf, strsOf_map l]; rfl
theorem intsOf_map {α : Type} {g : α → Int} : ∀ l : List α, intsOf (l.map fun c => .int (g c)) = some (l.map g)
  | [] => rfl
  | c :: l => by rw [List.map_cons, intsOf, intsOf_map l]; rfl
theorem joinA_map {α : Type} {g : α → Nat} {l : List α} (h : l.length ≤ 100000) : joinA (l.map fun c => .str [g c]) = some (.str (l.map g)) := by
  unfold joinA
  rw [strsOf_map]
  simp [h]
  induction l with
  | nil => rfl
  | cons c l ih => simp at h ⊢; exact ih (by omega)

section
variable (P : Params) (n d : Nat) (m : Lo) (σ : List TO)
theorem asc_le {t : List Nat} (h : ascii t = true) {c : Nat} (hc : c ∈ t) : c < 128 := by
  simp only [ascii, List.all_eq_true, decide_eq_true_eq] at h
  exact h c hc
theorem lowerN_le {c : Nat} (h : c < 128) : lowerN c < 128 := by unfold lowerN; split <;> omega
noncomputable def fLow : AV → AV
  | .str [c] => .str [lowerN c]
  | v => v
theorem q102 (t : List Nat) (h : ascii t = true) (hl : t.length ≤ 40) : evf P (n + 120) (d + 2) 102 [.str t] σ = some (.ok (.str (t.map lowerN)), σ) := by
  rw [evf, evFn_s, F102.2]
  dsimp only [F102]
  simp [-bnd, -stm, -opt, -mk, evSs_nil, evSs_cons, evS_asg, evS_asgC, evS_asgAt, evS_asgT, evS_expr, evS_ret, evS_ite, evS_raise, evS_try, evE_const, evE_var, evE_not, evE_and, evE_or, evE_ite, evE_bin, evE_cmp, evE_cmp2, evE_call, evE_meth, evE_at, evE_data, evE_sub, evE_slice, evE_tup, evE_list, evE_comp, evT_s, evAll_nil, evAll_cons, evEs_nil, evEs_cons, evO_none, evO_some, evCall_b, evCall_t, evCall_r, evHs, cmpA, binA, bnd_ok, bnd_exc, stm_ok, stm_exc, optv, AV.free, AV.frees, wireC, kindT, eq_int, eq_str, eq_bytes, ti_tup, eq_loc, mb_join, mb_split, mb_lower, mb_upper, mb_pop, mb_indexL, mb_indexV, mb_append, cb_lenS, cb_lenB, cb_lenL, cb_ord, cb_chr, cb_bytesB, cb_bytesL, cb_barr, cb_intS, cb_intI, getL, getL0, setL, setL0, takeL, takeS, takeLk, iterA, h]
  rw [comp_map (f := fLow) (c := 50)]
  · simp [-bnd, -stm, -opt, -mk, evSs_nil, evSs_cons, evS_asg, evS_asgC, evS_asgAt, evS_asgT, evS_expr, evS_ret, evS_ite, evS_raise, evS_try, evE_const, evE_var, evE_not, evE_and, evE_or, evE_ite, evE_bin, evE_cmp, evE_cmp2, evE_call, evE_meth, evE_at, evE_data, evE_sub, evE_slice, evE_tup, evE_list, evE_comp, evT_s, evAll_nil, evAll_cons, evEs_nil, evEs_cons, evO_none, evO_some, evCall_b, evCall_t, evCall_r, evHs, cmpA, binA, bnd_ok, bnd_exc, stm_ok, stm_exc, optv, AV.free, AV.frees, wireC, kindT, eq_int, eq_str, eq_bytes, ti_tup, eq_loc, mb_join, mb_split, mb_lower, mb_upper, mb_pop, mb_indexL, mb_indexV, mb_append, cb_lenS, cb_lenB, cb_lenL, cb_ord, cb_chr, cb_bytesB, cb_bytesL, cb_barr, cb_intS, cb_intI, getL, getL0, setL, setL0, takeL, takeS, takeLk, Function.comp_def, fLow]
    have h1 : AV.frees (t.map fun c => AV.str [lowerN c]) = true := frees_map (fun _ => rfl) t
    have h2 := joinA_map (g := lowerN) (l := t) (by omega)
    have h3 : t.length ≤ 100000 := by omega
    simp [-bnd, -stm, -opt, -mk, evSs_nil, evSs_cons, evS_asg, evS_asgC, evS_asgAt, evS_asgT, evS_expr, evS_ret, evS_ite, evS_raise, evS_try, evE_const, evE_var, evE_not, evE_and, evE_or, evE_ite, evE_bin, evE_cmp, evE_cmp2, evE_call, evE_meth, evE_at, evE_data, evE_sub, evE_slice, evE_tup, evE_list, evE_comp, evT_s, evAll_nil, evAll_cons, evEs_nil, evEs_cons, evO_none, evO_some, evCall_b, evCall_t, evCall_r, evHs, cmpA, binA, bnd_ok, bnd_exc, stm_ok, stm_exc, optv, AV.free, AV.frees, wireC, kindT, eq_int, eq_str, eq_bytes, ti_tup, eq_loc, mb_join, mb_split, mb_lower, mb_upper, mb_pop, mb_indexL, mb_indexV, mb_append, cb_lenS, cb_lenB, cb_lenL, cb_ord, cb_chr, cb_bytesB, cb_bytesL, cb_barr, cb_intS, cb_intI, getL, getL0, setL, setL0, takeL, takeS, takeLk, h1, h3, mk, h2]
  · intro v hv k hk
    simp only [List.mem_map] at hv
    obtain ⟨c, hc, rfl⟩ := hv
    obtain ⟨k, rfl⟩ : ∃ j, k = j + 50 := ⟨k - 50, by omega⟩
    have := q92 P (k + 15) d σ c
    have hc := lowerN_le (asc_le h hc)
    have h2 : ((lowerN c : Nat) : Int) < 256 := by omega
    simp [-bnd, -stm, -opt, -mk, evSs_nil, evSs_cons, evS_asg, evS_asgC, evS_asgAt, evS_asgT, evS_expr, evS_ret, evS_ite, evS_raise, evS_try, evE_const, evE_var, evE_not, evE_and, evE_or, evE_ite, evE_bin, evE_cmp, evE_cmp2, evE_call, evE_meth, evE_at, evE_data, evE_sub, evE_slice, evE_tup, evE_list, evE_comp, evT_s, evAll_nil, evAll_cons, evEs_nil, evEs_cons, evO_none, evO_some, evCall_b, evCall_t, evCall_r, evHs, cmpA, binA, bnd_ok, bnd_exc, stm_ok, stm_exc, optv, AV.free, AV.frees, wireC, kindT, eq_int, eq_str, eq_bytes, ti_tup, eq_loc, mb_join, mb_split, mb_lower, mb_upper, mb_pop, mb_indexL, mb_indexV, mb_append, cb_lenS, cb_lenB, cb_lenL, cb_ord, cb_chr, cb_bytesB, cb_bytesL, cb_barr, cb_intS, cb_intI, getL, getL0, setL, setL0, takeL, takeS, takeLk, q92, fLow, h2]
  · simp; omega
end
end Mine
end

section
open PySem PySem.W PyProof.Rows
set_option maxRecDepth 100000
set_option linter.unusedSimpArgs false
set_option linter.unusedVariables false
set_option maxHeartbeats 1000000
namespace Mine
noncomputable def monU : List (List Nat) := [[74, 97, 110], [70, 101, 98], [77, 97, 114], [65, 112, 114], [77, 97, 121], [74, 117, 110], [74, 117, 108], [65, 117, 103], [83, 101, 112], [79, 99, 116], [78, 111, 118], [68, 101, 99]]
noncomputable def monL : List (List Nat) := monU.map (·.map lowerN)
noncomputable def mIdx (t : List Nat) : Option Nat := monL.findIdx? (· == t.map lowerN)
noncomputable def mnum (t : List Nat) : Int := match mIdx t with
  | some k => (k : Int) + 1
  | none => 0
noncomputable def isFigN (c : Nat) : Bool := decide (48 ≤ c) && decide (c ≤ 57)
noncomputable def fNoFig : AV → Bool
  | .str [c] => !(isFigN c)
  | _ => false
noncomputable def fLowS : AV → AV
  | .str s => .str (s.map lowerN)
  | v => v

section
variable (P : Params) (n d : Nat) (m : Lo) (σ : List TO)
theorem t113 : tupItems (KP P) (.val (.ref 113)) = some (monU.map .str) := by kernel_rfl
theorem t425 : tupItems (KP P) (.val (.ref 425)) = some (monL.map .str) := by kernel_rfl
theorem in_loc {K : Frag} {s : List Nat} {i : Nat} : inA K σ (.str s) (.loc i) = match σ[i]? with
    | some (.list vs) => (strsOf vs).map (·.any (· == s))
    | _ => none := by cases s with
  | nil => rfl
  | cons c s => cases s <;> rfl
theorem in_val {K : Frag} {s : List Nat} {v : Value} : inA K σ (.str s) (.val v) = (tupItems K (.val v)).bind fun vs => (strsOf vs).map (·.any (· == s)) := by cases s with
  | nil => rfl
  | cons c s => cases s <;> rfl
theorem in_one {K : Frag} {c : Nat} {l : List Nat} : inA K σ (.str [c]) (.str l) = some (l.contains c) := rfl
theorem in_int {K : Frag} {c : Int} {l : List AV} : inA K σ (.int c) (.tup l) = (intsOf l).map (·.any (· == c)) := rfl
theorem strsOf_map1 : ∀ l : List (List Nat), strsOf (l.map .str) = some l
  | [] => rfl
  | c :: l => by rw [List.map_cons, strsOf, strsOf_map1 l]; rfl
theorem noFig_all : ∀ t : List Nat, ((t.map fun c => AV.str [c]).filter fNoFig).isEmpty = t.all isFigN
  | [] => rfl
  | c :: t => by
    rw [List.map_cons, List.filter_cons, List.all_cons, show fNoFig (.str [c]) = !(isFigN c) from rfl]
    generalize isFigN c = b
    cases b
    · rfl
    · exact noFig_all t
theorem noFig_plain (t : List Nat) (h : ascii t = true) : ((t.map fun c => AV.str [c]).filter fNoFig).all plainA = true := by
  rw [List.all_eq_true]
  intro v hv
  simp only [List.mem_filter, List.mem_map] at hv
  obtain ⟨⟨c, hc, rfl⟩, _⟩ := hv
  simp [plainA, asc_le h hc]
theorem noFig_frees (t : List Nat) : AV.frees ((t.map fun c => AV.str [c]).filter fNoFig) = true := by
  induction t with
  | nil => rfl
  | cons c t ih =>
    rw [List.map_cons, List.filter_cons]
    split
    · rw [AV.frees, ih]; rfl
    · exact ih
theorem figs_eq (t : List Nat) : figs t = (t != [] && t.all isFigN) := by
  unfold figs isFigN
  congr 2
  funext c
  exact Bool.decide_and _ _
theorem noFig_len (t : List Nat) : ((t.map fun c => AV.str [c]).filter fNoFig).length ≤ t.length := by
  refine Nat.le_trans (List.length_filter_le _ _) ?_
  simp
theorem q144 (t : List Nat) (h : ascii t = true) (hl : t.length ≤ 40) : evf P (n + 120) (d + 1) 144 [.str t] σ = some (.ok (.bool (figs t)), σ) := by
  rw [evf, evFn_s, F144.2]
  dsimp only [F144]
  cases t with
  | nil => simp [-bnd, -stm, -opt, -mk, evSs_nil, evSs_cons, evS_asg, evS_asgC, evS_asgAt, evS_asgT, evS_expr, evS_ret, evS_ite, evS_raise, evS_try, evE_const, evE_var, evE_not, evE_and, evE_or, evE_ite, evE_bin, evE_cmp, evE_cmp2, evE_call, evE_meth, evE_at, evE_data, evE_sub, evE_slice, evE_tup, evE_list, evE_comp, evT_s, evAll_nil, evAll_cons, evEs_nil, evEs_cons, evO_none, evO_some, evCall_b, evCall_t, evCall_r, evHs, cmpA, binA, bnd_ok, bnd_exc, stm_ok, stm_exc, optv, AV.free, AV.frees, wireC, kindT, eq_int, eq_str, eq_bytes, ti_tup, eq_loc, mb_join, mb_split, mb_lower, mb_upper, mb_pop, mb_indexL, mb_indexV, mb_append, cb_lenS, cb_lenB, cb_lenL, cb_ord, cb_chr, cb_bytesB, cb_bytesL, cb_barr, cb_intS, cb_intI, getL, getL0, setL, setL0, takeL, takeS, takeLk, figs]
  | cons c t =>
    simp [-bnd, -stm, -opt, -mk, evSs_nil, evSs_cons, evS_asg, evS_asgC, evS_asgAt, evS_asgT, evS_expr, evS_ret, evS_ite, evS_raise, evS_try, evE_const, evE_var, evE_not, evE_and, evE_or, evE_ite, evE_bin, evE_cmp, evE_cmp2, evE_call, evE_meth, evE_at, evE_data, evE_sub, evE_slice, evE_tup, evE_list, evE_comp, evT_s, evAll_nil, evAll_cons, evEs_nil, evEs_cons, evO_none, evO_some, evCall_b, evCall_t, evCall_r, evHs, cmpA, binA, bnd_ok, bnd_exc, stm_ok, stm_exc, optv, AV.free, AV.frees, wireC, kindT, eq_int, eq_str, eq_bytes, ti_tup, eq_loc, mb_join, mb_split, mb_lower, mb_upper, mb_pop, mb_indexL, mb_indexV, mb_append, cb_lenS, cb_lenB, cb_lenL, cb_ord, cb_chr, cb_bytesB, cb_bytesL, cb_barr, cb_intS, cb_intI, getL, getL0, setL, setL0, takeL, takeS, takeLk, iterA, h]
    rw [comp_filter (f := id) (p := fNoFig) (c := 20)]
    · have h1 := noFig_plain (c :: t) h
      have h2 := noFig_frees (c :: t)
      have h3 := noFig_all (c :: t)
      have h4 := noFig_len (c :: t)
      have h5 := figs_eq (c :: t)
      simp only [List.map_cons] at h1 h2 h3 h4
      generalize hg : List.filter fNoFig (AV.str [c] :: List.map (fun c => AV.str [c]) t) = vs at h1 h2 h3 h4
      have h6 : vs.length ≤ 100000 := by omega
      simp only [List.map_id]
      simp [-bnd, -stm, -opt, -mk, evSs_nil, evSs_cons, evS_asg, evS_asgC, evS_asgAt, evS_asgT, evS_expr, evS_ret, evS_ite, evS_raise, evS_try, evE_const, evE_var, evE_not, evE_and, evE_or, evE_ite, evE_bin, evE_cmp, evE_cmp2, evE_call, evE_meth, evE_at, evE_data, evE_sub, evE_slice, evE_tup, evE_list, evE_comp, evT_s, evAll_nil, evAll_cons, evEs_nil, evEs_cons, evO_none, evO_some, evCall_b, evCall_t, evCall_r, evHs, cmpA, binA, bnd_ok, bnd_exc, stm_ok, stm_exc, optv, AV.free, AV.frees, wireC, kindT, eq_int, eq_str, eq_bytes, ti_tup, eq_loc, mb_join, mb_split, mb_lower, mb_upper, mb_pop, mb_indexL, mb_indexV, mb_append, cb_lenS, cb_lenB, cb_lenL, cb_ord, cb_chr, cb_bytesB, cb_bytesL, cb_barr, cb_intS, cb_intI, getL, getL0, setL, setL0, takeL, takeS, takeLk, h2, h6, mk]
      simp only [List.all_eq_true] at h1
      rw [if_pos h1, h5, ← h3]
      cases vs.isEmpty <;> simp [-bnd, -stm, -opt, -mk, evSs_nil, evSs_cons, evS_asg, evS_asgC, evS_asgAt, evS_asgT, evS_expr, evS_ret, evS_ite, evS_raise, evS_try, evE_const, evE_var, evE_not, evE_and, evE_or, evE_ite, evE_bin, evE_cmp, evE_cmp2, evE_call, evE_meth, evE_at, evE_data, evE_sub, evE_slice, evE_tup, evE_list, evE_comp, evT_s, evAll_nil, evAll_cons, evEs_nil, evEs_cons, evO_none, evO_some, evCall_b, evCall_t, evCall_r, evHs, cmpA, binA, bnd_ok, bnd_exc, stm_ok, stm_exc, optv, AV.free, AV.frees, wireC, kindT, eq_int, eq_str, eq_bytes, ti_tup, eq_loc, mb_join, mb_split, mb_lower, mb_upper, mb_pop, mb_indexL, mb_indexV, mb_append, cb_lenS, cb_lenB, cb_lenL, cb_ord, cb_chr, cb_bytesB, cb_bytesL, cb_barr, cb_intS, cb_intI, getL, getL0, setL, setL0, takeL, takeS, takeLk]
    · intro v hv k hk
      obtain ⟨x, rfl⟩ : ∃ x, v = AV.str [x] := by
        simp only [List.mem_cons, List.mem_map] at hv
        rcases hv with rfl | ⟨x, _, rfl⟩ <;> exact ⟨_, rfl⟩
      obtain ⟨k, rfl⟩ : ∃ j, k = j + 20 := ⟨k - 20, by omega⟩
      by_cases h1 : 48 ≤ x <;> by_cases h2 : x ≤ 57 <;> simp [-bnd, -stm, -opt, -mk, evSs_nil, evSs_cons, evS_asg, evS_asgC, evS_asgAt, evS_asgT, evS_expr, evS_ret, evS_ite, evS_raise, evS_try, evE_const, evE_var, evE_not, evE_and, evE_or, evE_ite, evE_bin, evE_cmp, evE_cmp2, evE_call, evE_meth, evE_at, evE_data, evE_sub, evE_slice, evE_tup, evE_list, evE_comp, evT_s, evAll_nil, evAll_cons, evEs_nil, evEs_cons, evO_none, evO_some, evCall_b, evCall_t, evCall_r, evHs, cmpA, binA, bnd_ok, bnd_exc, stm_ok, stm_exc, optv, AV.free, AV.frees, wireC, kindT, eq_int, eq_str, eq_bytes, ti_tup, eq_loc, mb_join, mb_split, mb_lower, mb_upper, mb_pop, mb_indexL, mb_indexV, mb_append, cb_lenS, cb_lenB, cb_lenL, cb_ord, cb_chr, cb_bytesB, cb_bytesL, cb_barr, cb_intS, cb_intI, getL, getL0, setL, setL0, takeL, takeS, takeLk, fNoFig, isFigN, h1, h2]
    · intro v hv k hk
      obtain ⟨k, rfl⟩ : ∃ j, k = j + 20 := ⟨k - 20, by omega⟩
      simp [-bnd, -stm, -opt, -mk, evSs_nil, evSs_cons, evS_asg, evS_asgC, evS_asgAt, evS_asgT, evS_expr, evS_ret, evS_ite, evS_raise, evS_try, evE_const, evE_var, evE_not, evE_and, evE_or, evE_ite, evE_bin, evE_cmp, evE_cmp2, evE_call, evE_meth, evE_at, evE_data, evE_sub, evE_slice, evE_tup, evE_list, evE_comp, evT_s, evAll_nil, evAll_cons, evEs_nil, evEs_cons, evO_none, evO_some, evCall_b, evCall_t, evCall_r, evHs, cmpA, binA, bnd_ok, bnd_exc, stm_ok, stm_exc, optv, AV.free, AV.frees, wireC, kindT, eq_int, eq_str, eq_bytes, ti_tup, eq_loc, mb_join, mb_split, mb_lower, mb_upper, mb_pop, mb_indexL, mb_indexV, mb_append, cb_lenS, cb_lenB, cb_lenL, cb_ord, cb_chr, cb_bytesB, cb_bytesL, cb_barr, cb_intS, cb_intI, getL, getL0, setL, setL0, takeL, takeS, takeLk]
    · simp at hl ⊢; omega
theorem monU_ok : ∀ s ∈ monU, ascii s = true ∧ s.length ≤ 40 := by decide +kernel
theorem low_map : (monU.map AV.str).map fLowS = monL.map .str := by
  rw [List.map_map, monL, List.map_map]; rfl
theorem mem_idx {t : List Nat} : t.map lowerN ∈ monL ↔ (mIdx t).isSome = true := by
  unfold mIdx
  rw [List.findIdx?_isSome, List.any_eq_true]
  constructor
  · exact fun h => ⟨_, h, by simp⟩
  · rintro ⟨x, hx, e⟩
    rw [← beq_iff_eq.mp e]; exact hx
theorem frees_mon : AV.frees (monL.map .str) = true := frees_map (fun _ => rfl) _
theorem q139 (t : List Nat) (h : ascii t = true) (hl : t.length ≤ 40) : evf P (n + 200) (d + 3) 139 [.str t] σ = some (.ok (.int (mnum t)), σ) := by
  rw [evf, evFn_s, F139.2]
  dsimp only [F139]
  simp [-bnd, -stm, -opt, -mk, evSs_nil, evSs_cons, evS_asg, evS_asgC, evS_asgAt, evS_asgT, evS_expr, evS_ret, evS_ite, evS_raise, evS_try, evE_const, evE_var, evE_not, evE_and, evE_or, evE_ite, evE_bin, evE_cmp, evE_cmp2, evE_call, evE_meth, evE_at, evE_data, evE_sub, evE_slice, evE_tup, evE_list, evE_comp, evT_s, evAll_nil, evAll_cons, evEs_nil, evEs_cons, evO_none, evO_some, evCall_b, evCall_t, evCall_r, evHs, cmpA, binA, bnd_ok, bnd_exc, stm_ok, stm_exc, optv, AV.free, AV.frees, wireC, kindT, eq_int, eq_str, eq_bytes, ti_tup, eq_loc, mb_join, mb_split, mb_lower, mb_upper, mb_pop, mb_indexL, mb_indexV, mb_append, cb_lenS, cb_lenB, cb_lenL, cb_ord, cb_chr, cb_bytesB, cb_bytesL, cb_barr, cb_intS, cb_intI, getL, getL0, setL, setL0, takeL, takeS, takeLk, iterA, t113]
  rw [comp_map (f := fLowS) (c := 150)]
  · rw [low_map]
    have e : mIdx t = monL.findIdx? (· == t.map lowerN) := rfl
    have h1 : monL.length ≤ 100000 := by decide +kernel
    simp [-bnd, -stm, -opt, -mk, evSs_nil, evSs_cons, evS_asg, evS_asgC, evS_asgAt, evS_asgT, evS_expr, evS_ret, evS_ite, evS_raise, evS_try, evE_const, evE_var, evE_not, evE_and, evE_or, evE_ite, evE_bin, evE_cmp, evE_cmp2, evE_call, evE_meth, evE_at, evE_data, evE_sub, evE_slice, evE_tup, evE_list, evE_comp, evT_s, evAll_nil, evAll_cons, evEs_nil, evEs_cons, evO_none, evO_some, evCall_b, evCall_t, evCall_r, evHs, cmpA, binA, bnd_ok, bnd_exc, stm_ok, stm_exc, optv, AV.free, AV.frees, wireC, kindT, eq_int, eq_str, eq_bytes, ti_tup, eq_loc, mb_join, mb_split, mb_lower, mb_upper, mb_pop, mb_indexL, mb_indexV, mb_append, cb_lenS, cb_lenB, cb_lenL, cb_ord, cb_chr, cb_bytesB, cb_bytesL, cb_barr, cb_intS, cb_intI, getL, getL0, setL, setL0, takeL, takeS, takeLk, frees_mon, h1, mk, q102, h, hl, in_loc, strsOf_map1]
    have hm := @mem_idx t
    unfold mnum
    cases hk : mIdx t with
    | none =>
      rw [hk] at hm
      have hm : ¬ t.map lowerN ∈ monL := by simpa using hm
      simp [-bnd, -stm, -opt, -mk, evSs_nil, evSs_cons, evS_asg, evS_asgC, evS_asgAt, evS_asgT, evS_expr, evS_ret, evS_ite, evS_raise, evS_try, evE_const, evE_var, evE_not, evE_and, evE_or, evE_ite, evE_bin, evE_cmp, evE_cmp2, evE_call, evE_meth, evE_at, evE_data, evE_sub, evE_slice, evE_tup, evE_list, evE_comp, evT_s, evAll_nil, evAll_cons, evEs_nil, evEs_cons, evO_none, evO_some, evCall_b, evCall_t, evCall_r, evHs, cmpA, binA, bnd_ok, bnd_exc, stm_ok, stm_exc, optv, AV.free, AV.frees, wireC, kindT, eq_int, eq_str, eq_bytes, ti_tup, eq_loc, mb_join, mb_split, mb_lower, mb_upper, mb_pop, mb_indexL, mb_indexV, mb_append, cb_lenS, cb_lenB, cb_lenL, cb_ord, cb_chr, cb_bytesB, cb_bytesL, cb_barr, cb_intS, cb_intI, getL, getL0, setL, setL0, takeL, takeS, takeLk, hm]
    | some k =>
      rw [hk] at hm
      have hm : t.map lowerN ∈ monL := by simpa using hm
      rw [e] at hk
      simp [-bnd, -stm, -opt, -mk, evSs_nil, evSs_cons, evS_asg, evS_asgC, evS_asgAt, evS_asgT, evS_expr, evS_ret, evS_ite, evS_raise, evS_try, evE_const, evE_var, evE_not, evE_and, evE_or, evE_ite, evE_bin, evE_cmp, evE_cmp2, evE_call, evE_meth, evE_at, evE_data, evE_sub, evE_slice, evE_tup, evE_list, evE_comp, evT_s, evAll_nil, evAll_cons, evEs_nil, evEs_cons, evO_none, evO_some, evCall_b, evCall_t, evCall_r, evHs, cmpA, binA, bnd_ok, bnd_exc, stm_ok, stm_exc, optv, AV.free, AV.frees, wireC, kindT, eq_int, eq_str, eq_bytes, ti_tup, eq_loc, mb_join, mb_split, mb_lower, mb_upper, mb_pop, mb_indexL, mb_indexV, mb_append, cb_lenS, cb_lenB, cb_lenL, cb_ord, cb_chr, cb_bytesB, cb_bytesL, cb_barr, cb_intS, cb_intI, getL, getL0, setL, setL0, takeL, takeS, takeLk, q102, h, hl, h1, strsOf_map1, hk, hm]
  · intro v hv k hk
    simp only [List.mem_map] at hv
    obtain ⟨s, hs, rfl⟩ := hv
    obtain ⟨k, rfl⟩ : ∃ j, k = j + 150 := ⟨k - 150, by omega⟩
    simp [-bnd, -stm, -opt, -mk, evSs_nil, evSs_cons, evS_asg, evS_asgC, evS_asgAt, evS_asgT, evS_expr, evS_ret, evS_ite, evS_raise, evS_try, evE_const, evE_var, evE_not, evE_and, evE_or, evE_ite, evE_bin, evE_cmp, evE_cmp2, evE_call, evE_meth, evE_at, evE_data, evE_sub, evE_slice, evE_tup, evE_list, evE_comp, evT_s, evAll_nil, evAll_cons, evEs_nil, evEs_cons, evO_none, evO_some, evCall_b, evCall_t, evCall_r, evHs, cmpA, binA, bnd_ok, bnd_exc, stm_ok, stm_exc, optv, AV.free, AV.frees, wireC, kindT, eq_int, eq_str, eq_bytes, ti_tup, eq_loc, mb_join, mb_split, mb_lower, mb_upper, mb_pop, mb_indexL, mb_indexV, mb_append, cb_lenS, cb_lenB, cb_lenL, cb_ord, cb_chr, cb_bytesB, cb_bytesL, cb_barr, cb_intS, cb_intI, getL, getL0, setL, setL0, takeL, takeS, takeLk, q102, (monU_ok s hs).1, (monU_ok s hs).2, fLowS]
  · rw [show (monU.map AV.str).length = 12 from rfl]; omega
end
end Mine
end

section
open PySem PySem.W PyProof.Rows
set_option maxRecDepth 100000
set_option linter.unusedSimpArgs false
set_option linter.unusedVariables false
set_option maxHeartbeats 1000000
namespace Mine
theorem sp_in {c : Nat} : ∀ {t : List Nat}, ∀ p ∈ splitL c t, (∀ y ∈ p, y ∈ t) ∧ p.length ≤ t.length
  | [], p, hp => by
    simp only [splitL, List.mem_singleton] at hp
    subst hp
    exact ⟨fun _ h => (nomatch h), Nat.le_refl _⟩
  | x :: r, p, hp => by
    rw [splitL] at hp
    split at hp
    · rcases List.mem_cons.mp hp with rfl | hp
      · exact ⟨fun _ h => (nomatch h), Nat.zero_le _⟩
      · have := sp_in p hp
        exact ⟨fun y hy => .tail _ (this.1 y hy), Nat.le_succ_of_le this.2⟩
    · split at hp
      · simp only [List.mem_singleton] at hp
        subst hp
        exact ⟨fun y hy => by simp at hy; simp [hy], by simp⟩
      · rename_i q qs e
        rcases List.mem_cons.mp hp with rfl | hp
        · have := sp_in q (by rw [e]; exact .head _)
          refine ⟨fun y hy => ?_, by simpa using this.2⟩
          rcases List.mem_cons.mp hy with rfl | hy
          · exact .head _
          · exact .tail _ (this.1 y hy)
        · have := sp_in p (by rw [e]; exact .tail _ hp)
          exact ⟨fun y hy => .tail _ (this.1 y hy), Nat.le_succ_of_le this.2⟩
theorem sp_len {c : Nat} : ∀ {t : List Nat}, (splitL c t).length ≤ t.length + 1
  | [] => by simp [splitL]
  | x :: r => by
    have := @sp_len c r
    rw [splitL]
    split
    · simpa using this
    · split
      · simp
      · rename_i q qs e
        rw [e] at this
        simpa using Nat.le_succ_of_le this
theorem sp_ok {c : Nat} {t : List Nat} (h : ascii t = true) (hl : t.length ≤ 40) : ∀ p ∈ splitL c t, ascii p = true ∧ p.length ≤ 40 := fun p hp => by
  have := sp_in p hp
  refine ⟨?_, by omega⟩
  simp only [ascii, List.all_eq_true, decide_eq_true_eq]
  exact fun y hy => asc_le h (this.1 y hy)

noncomputable def dayR (t : List Nat) : Option (Int × Int × Int) := match splitL 45 t with
  | [a, b, c] => if figs a = true ∧ figs c = true ∧ a.length ≤ 2 ∧ c.length = 4 ∧ dayI (figVal c) (mnum b) (figVal a) = true then some ((figVal c : Int), mnum b, (figVal a : Int)) else none
  | _ => none
/-- raised: the k-th thing made -/
noncomputable def Raised (r : R AV) (σ : List TO) (C : Addr) (a : Int) : Prop := ∃ ext j, r = some (.exc (σ.length + j), σ ++ ext) ∧ ext[j]? = some (.exc C a .bare)
theorem Raised.of {r : R AV} {σ ext : List TO} {C : Addr} {a : Int} (j : Nat) (h : r = some (.exc (σ.length + j), σ ++ ext)) (e : ext[j]? = some (.exc C a .bare)) : Raised r σ C a := ⟨ext, j, h, e⟩

section
variable (P : Params) (n d : Nat) (m : Lo) (σ : List TO)
theorem q151 (t : List Nat) (h : ascii t = true) (hl : t.length ≤ 40) : match dayR t with
    | some (y, k, b) => evf P (n + 260) (d + 4) 151 [.str t, .int 0, .int t.length] σ = some (.ok (.tup [.int y, .int k, .int b]), σ)
    | none => Raised (evf P (n + 260) (d + 4) 151 [.str t, .int 0, .int t.length] σ) σ 59 0 := by
  rw [evf, evFn_s, F151.2]
  dsimp only [F151]
  have hl' : t.length ≤ 100000 := by omega
  have hs : splitL 45 t = splitL 45 t := rfl
  have ok := @sp_ok 45 t h hl
  have ln := @sp_len 45 t
  simp [-bnd, -stm, -opt, -mk, evSs_nil, evSs_cons, evS_asg, evS_asgC, evS_asgAt, evS_asgT, evS_expr, evS_ret, evS_ite, evS_raise, evS_try, evE_const, evE_var, evE_not, evE_and, evE_or, evE_ite, evE_bin, evE_cmp, evE_cmp2, evE_call, evE_meth, evE_at, evE_data, evE_sub, evE_slice, evE_tup, evE_list, evE_comp, evT_s, evAll_nil, evAll_cons, evEs_nil, evEs_cons, evO_none, evO_some, evCall_b, evCall_t, evCall_r, evHs, cmpA, binA, bnd_ok, bnd_exc, stm_ok, stm_exc, optv, AV.free, AV.frees, wireC, kindT, eq_int, eq_str, eq_bytes, ti_tup, eq_loc, mb_join, mb_split, mb_lower, mb_upper, mb_pop, mb_indexL, mb_indexV, mb_append, cb_lenS, cb_lenB, cb_lenL, cb_ord, cb_chr, cb_bytesB, cb_bytesL, cb_barr, cb_intS, cb_intI, getL, getL0, setL, setL0, takeL, takeS, takeLk, sliceA, sliceL, optI, hl', mk]
  generalize hp : splitL 45 t = parts at ok ln
  have ln' : parts.length ≤ 100000 := by omega
  by_cases h3 : parts.length = 3
  · obtain ⟨a, b, c, rfl⟩ : ∃ a b c, parts = [a, b, c] := by
      match parts, h3 with
      | [a, b, c], _ => exact ⟨a, b, c, rfl⟩
    have oa := ok a (by simp)
    have ob := ok b (by simp)
    have oc := ok c (by simp)
    have la : a.length ≤ 100000 := by omega
    have lc : c.length ≤ 100000 := by omega
    have la2 : a.length ≤ 100 := by omega
    have lc2 : c.length ≤ 100 := by omega
    by_cases h4 : figs a = true
    rotate_left
    · simp only [dayR, hp]
      simp [-bnd, -stm, -opt, -mk, evSs_nil, evSs_cons, evS_asg, evS_asgC, evS_asgAt, evS_asgT, evS_expr, evS_ret, evS_ite, evS_raise, evS_try, evE_const, evE_var, evE_not, evE_and, evE_or, evE_ite, evE_bin, evE_cmp, evE_cmp2, evE_call, evE_meth, evE_at, evE_data, evE_sub, evE_slice, evE_tup, evE_list, evE_comp, evT_s, evAll_nil, evAll_cons, evEs_nil, evEs_cons, evO_none, evO_some, evCall_b, evCall_t, evCall_r, evHs, cmpA, binA, bnd_ok, bnd_exc, stm_ok, stm_exc, optv, AV.free, AV.frees, wireC, kindT, eq_int, eq_str, eq_bytes, ti_tup, eq_loc, mb_join, mb_split, mb_lower, mb_upper, mb_pop, mb_indexL, mb_indexV, mb_append, cb_lenS, cb_lenB, cb_lenL, cb_ord, cb_chr, cb_bytesB, cb_bytesL, cb_barr, cb_intS, cb_intI, getL, getL0, setL, setL0, takeL, takeS, takeLk, subA, q144, q139, q134, oa, ob, oc, la, lc, la2, lc2, callC, mk, h4]
      (refine ⟨?_, 1, ?_, ?_⟩; rotate_left; exact rfl; rfl)
    by_cases h5 : figs c = true
    rotate_left
    · simp only [dayR, hp]
      simp [-bnd, -stm, -opt, -mk, evSs_nil, evSs_cons, evS_asg, evS_asgC, evS_asgAt, evS_asgT, evS_expr, evS_ret, evS_ite, evS_raise, evS_try, evE_const, evE_var, evE_not, evE_and, evE_or, evE_ite, evE_bin, evE_cmp, evE_cmp2, evE_call, evE_meth, evE_at, evE_data, evE_sub, evE_slice, evE_tup, evE_list, evE_comp, evT_s, evAll_nil, evAll_cons, evEs_nil, evEs_cons, evO_none, evO_some, evCall_b, evCall_t, evCall_r, evHs, cmpA, binA, bnd_ok, bnd_exc, stm_ok, stm_exc, optv, AV.free, AV.frees, wireC, kindT, eq_int, eq_str, eq_bytes, ti_tup, eq_loc, mb_join, mb_split, mb_lower, mb_upper, mb_pop, mb_indexL, mb_indexV, mb_append, cb_lenS, cb_lenB, cb_lenL, cb_ord, cb_chr, cb_bytesB, cb_bytesL, cb_barr, cb_intS, cb_intI, getL, getL0, setL, setL0, takeL, takeS, takeLk, subA, q144, q139, q134, oa, ob, oc, la, lc, la2, lc2, callC, mk, h4, h5]
      (refine ⟨?_, 1, ?_, ?_⟩; rotate_left; exact rfl; rfl)
    by_cases h6 : (a.length : Int) ≤ 2
    rotate_left
    · have h6n : ¬ a.length ≤ 2 := by omega
      simp only [dayR, hp]
      simp [-bnd, -stm, -opt, -mk, evSs_nil, evSs_cons, evS_asg, evS_asgC, evS_asgAt, evS_asgT, evS_expr, evS_ret, evS_ite, evS_raise, evS_try, evE_const, evE_var, evE_not, evE_and, evE_or, evE_ite, evE_bin, evE_cmp, evE_cmp2, evE_call, evE_meth, evE_at, evE_data, evE_sub, evE_slice, evE_tup, evE_list, evE_comp, evT_s, evAll_nil, evAll_cons, evEs_nil, evEs_cons, evO_none, evO_some, evCall_b, evCall_t, evCall_r, evHs, cmpA, binA, bnd_ok, bnd_exc, stm_ok, stm_exc, optv, AV.free, AV.frees, wireC, kindT, eq_int, eq_str, eq_bytes, ti_tup, eq_loc, mb_join, mb_split, mb_lower, mb_upper, mb_pop, mb_indexL, mb_indexV, mb_append, cb_lenS, cb_lenB, cb_lenL, cb_ord, cb_chr, cb_bytesB, cb_bytesL, cb_barr, cb_intS, cb_intI, getL, getL0, setL, setL0, takeL, takeS, takeLk, subA, q144, q139, q134, oa, ob, oc, la, lc, la2, lc2, callC, mk, h4, h5, h6, h6n]
      (refine ⟨?_, 1, ?_, ?_⟩; rotate_left; exact rfl; rfl)
    have h6n : a.length ≤ 2 := by omega
    by_cases h7 : (c.length : Int) = 4
    rotate_left
    · have h7n : ¬ c.length = 4 := by omega
      simp only [dayR, hp]
      simp [-bnd, -stm, -opt, -mk, evSs_nil, evSs_cons, evS_asg, evS_asgC, evS_asgAt, evS_asgT, evS_expr, evS_ret, evS_ite, evS_raise, evS_try, evE_const, evE_var, evE_not, evE_and, evE_or, evE_ite, evE_bin, evE_cmp, evE_cmp2, evE_call, evE_meth, evE_at, evE_data, evE_sub, evE_slice, evE_tup, evE_list, evE_comp, evT_s, evAll_nil, evAll_cons, evEs_nil, evEs_cons, evO_none, evO_some, evCall_b, evCall_t, evCall_r, evHs, cmpA, binA, bnd_ok, bnd_exc, stm_ok, stm_exc, optv, AV.free, AV.frees, wireC, kindT, eq_int, eq_str, eq_bytes, ti_tup, eq_loc, mb_join, mb_split, mb_lower, mb_upper, mb_pop, mb_indexL, mb_indexV, mb_append, cb_lenS, cb_lenB, cb_lenL, cb_ord, cb_chr, cb_bytesB, cb_bytesL, cb_barr, cb_intS, cb_intI, getL, getL0, setL, setL0, takeL, takeS, takeLk, subA, q144, q139, q134, oa, ob, oc, la, lc, la2, lc2, callC, mk, h4, h5, h6, h6n, h7, h7n]
      (refine ⟨?_, 1, ?_, ?_⟩; rotate_left; exact rfl; rfl)
    have h7n : c.length = 4 := by omega
    by_cases h8 : dayI (figVal c) (mnum b) (figVal a) = true
    rotate_left
    · simp only [dayR, hp]
      simp [-bnd, -stm, -opt, -mk, evSs_nil, evSs_cons, evS_asg, evS_asgC, evS_asgAt, evS_asgT, evS_expr, evS_ret, evS_ite, evS_raise, evS_try, evE_const, evE_var, evE_not, evE_and, evE_or, evE_ite, evE_bin, evE_cmp, evE_cmp2, evE_call, evE_meth, evE_at, evE_data, evE_sub, evE_slice, evE_tup, evE_list, evE_comp, evT_s, evAll_nil, evAll_cons, evEs_nil, evEs_cons, evO_none, evO_some, evCall_b, evCall_t, evCall_r, evHs, cmpA, binA, bnd_ok, bnd_exc, stm_ok, stm_exc, optv, AV.free, AV.frees, wireC, kindT, eq_int, eq_str, eq_bytes, ti_tup, eq_loc, mb_join, mb_split, mb_lower, mb_upper, mb_pop, mb_indexL, mb_indexV, mb_append, cb_lenS, cb_lenB, cb_lenL, cb_ord, cb_chr, cb_bytesB, cb_bytesL, cb_barr, cb_intS, cb_intI, getL, getL0, setL, setL0, takeL, takeS, takeLk, subA, q144, q139, q134, oa, ob, oc, la, lc, la2, lc2, callC, mk, h4, h5, h6, h6n, h7, h7n, h8]
      (refine ⟨?_, 1, ?_, ?_⟩; rotate_left; exact rfl; rfl)
    · simp only [dayR, hp]
      simp [-bnd, -stm, -opt, -mk, evSs_nil, evSs_cons, evS_asg, evS_asgC, evS_asgAt, evS_asgT, evS_expr, evS_ret, evS_ite, evS_raise, evS_try, evE_const, evE_var, evE_not, evE_and, evE_or, evE_ite, evE_bin, evE_cmp, evE_cmp2, evE_call, evE_meth, evE_at, evE_data, evE_sub, evE_slice, evE_tup, evE_list, evE_comp, evT_s, evAll_nil, evAll_cons, evEs_nil, evEs_cons, evO_none, evO_some, evCall_b, evCall_t, evCall_r, evHs, cmpA, binA, bnd_ok, bnd_exc, stm_ok, stm_exc, optv, AV.free, AV.frees, wireC, kindT, eq_int, eq_str, eq_bytes, ti_tup, eq_loc, mb_join, mb_split, mb_lower, mb_upper, mb_pop, mb_indexL, mb_indexV, mb_append, cb_lenS, cb_lenB, cb_lenL, cb_ord, cb_chr, cb_bytesB, cb_bytesL, cb_barr, cb_intS, cb_intI, getL, getL0, setL, setL0, takeL, takeS, takeLk, subA, q144, q139, q134, oa, ob, oc, la, lc, la2, lc2, callC, mk, h4, h5, h6, h6n, h7, h7n, h8]
  · have : dayR t = none := by
      unfold dayR
      rw [hp]
      split
      · exact absurd rfl h3
      · rfl
    have h3i : ¬ (parts.length : Int) = 3 := by omega
    simp [-bnd, -stm, -opt, -mk, evSs_nil, evSs_cons, evS_asg, evS_asgC, evS_asgAt, evS_asgT, evS_expr, evS_ret, evS_ite, evS_raise, evS_try, evE_const, evE_var, evE_not, evE_and, evE_or, evE_ite, evE_bin, evE_cmp, evE_cmp2, evE_call, evE_meth, evE_at, evE_data, evE_sub, evE_slice, evE_tup, evE_list, evE_comp, evT_s, evAll_nil, evAll_cons, evEs_nil, evEs_cons, evO_none, evO_some, evCall_b, evCall_t, evCall_r, evHs, cmpA, binA, bnd_ok, bnd_exc, stm_ok, stm_exc, optv, AV.free, AV.frees, wireC, kindT, eq_int, eq_str, eq_bytes, ti_tup, eq_loc, mb_join, mb_split, mb_lower, mb_upper, mb_pop, mb_indexL, mb_indexV, mb_append, cb_lenS, cb_lenB, cb_lenL, cb_ord, cb_chr, cb_bytesB, cb_bytesL, cb_barr, cb_intS, cb_intI, getL, getL0, setL, setL0, takeL, takeS, takeLk, this, ln', h3, h3i, callC, mk]
    (refine ⟨?_, 1, ?_, ?_⟩; rotate_left; exact rfl; rfl)
theorem q158 (t : List Nat) (h : ascii t = true) (hl : t.length ≤ 40) : match dayR t with
    | some (y, k, b) => evf P (n + 300) (d + 5) 158 [.str t] σ = some (.ok (.tup [.int y, .int k, .int b]), σ)
    | none => Raised (evf P (n + 300) (d + 5) 158 [.str t] σ) σ 59 0 := by
  have hl' : t.length ≤ 100000 := by omega
  have q := q151 P (n + 35) d σ t h hl
  rw [show n + 35 + 260 = n + 295 from rfl] at q
  cases e : dayR t with
  | none =>
    rw [e] at q
    obtain ⟨ext, j, q, f⟩ := q
    refine ⟨ext, j, ?_, f⟩
    rw [evf, evFn_s, F158.2]
    dsimp only [F158]
    simp [-bnd, -stm, -opt, -mk, evSs_nil, evSs_cons, evS_asg, evS_asgC, evS_asgAt, evS_asgT, evS_expr, evS_ret, evS_ite, evS_raise, evS_try, evE_const, evE_var, evE_not, evE_and, evE_or, evE_ite, evE_bin, evE_cmp, evE_cmp2, evE_call, evE_meth, evE_at, evE_data, evE_sub, evE_slice, evE_tup, evE_list, evE_comp, evT_s, evAll_nil, evAll_cons, evEs_nil, evEs_cons, evO_none, evO_some, evCall_b, evCall_t, evCall_r, evHs, cmpA, binA, bnd_ok, bnd_exc, stm_ok, stm_exc, optv, AV.free, AV.frees, wireC, kindT, eq_int, eq_str, eq_bytes, ti_tup, eq_loc, mb_join, mb_split, mb_lower, mb_upper, mb_pop, mb_indexL, mb_indexV, mb_append, cb_lenS, cb_lenB, cb_lenL, cb_ord, cb_chr, cb_bytesB, cb_bytesL, cb_barr, cb_intS, cb_intI, getL, getL0, setL, setL0, takeL, takeS, takeLk, hl', q]
  | some x =>
    obtain ⟨y, k, b⟩ := x
    rw [e] at q
    dsimp only at q ⊢
    rw [evf, evFn_s, F158.2]
    dsimp only [F158]
    simp [-bnd, -stm, -opt, -mk, evSs_nil, evSs_cons, evS_asg, evS_asgC, evS_asgAt, evS_asgT, evS_expr, evS_ret, evS_ite, evS_raise, evS_try, evE_const, evE_var, evE_not, evE_and, evE_or, evE_ite, evE_bin, evE_cmp, evE_cmp2, evE_call, evE_meth, evE_at, evE_data, evE_sub, evE_slice, evE_tup, evE_list, evE_comp, evT_s, evAll_nil, evAll_cons, evEs_nil, evEs_cons, evO_none, evO_some, evCall_b, evCall_t, evCall_r, evHs, cmpA, binA, bnd_ok, bnd_exc, stm_ok, stm_exc, optv, AV.free, AV.frees, wireC, kindT, eq_int, eq_str, eq_bytes, ti_tup, eq_loc, mb_join, mb_split, mb_lower, mb_upper, mb_pop, mb_indexL, mb_indexV, mb_append, cb_lenS, cb_lenB, cb_lenL, cb_ord, cb_chr, cb_bytesB, cb_bytesL, cb_barr, cb_intS, cb_intI, getL, getL0, setL, setL0, takeL, takeS, takeLk, hl', q]
theorem dig_contains (c : Nat) : [48, 49, 50, 51, 52, 53, 54, 55, 56, 57].contains c = isFigN c := by
  rw [Bool.eq_iff_iff]
  simp [isFigN]
  omega
theorem figVal_lt : ∀ (l : List Nat) (a k : Nat), l.all isFigN = true → a < 10 ^ k → l.foldl (fun n c => n * 10 + (c - 48)) a < 10 ^ (k + l.length)
  | [], a, k, _, h => by simpa using h
  | c :: l, a, k, hf, h => by
    rw [List.all_cons, Bool.and_eq_true] at hf
    have hc : c ≤ 57 := by
      have := hf.1
      simp [isFigN] at this
      exact this.2
    rw [List.foldl_cons, List.length_cons, show k + (l.length + 1) = (k + 1) + l.length by omega]
    refine figVal_lt l _ (k + 1) hf.2 ?_
    rw [Nat.pow_succ]
    omega
theorem figVal_4 {c : List Nat} (h : c.all isFigN = true) (hl : c.length = 4) : figVal c ≤ 9999 := by
  have := figVal_lt c 0 0 h (by decide)
  rw [hl] at this
  exact Nat.le_of_lt_succ this
theorem mIdx_lt {b : List Nat} {k : Nat} (h : mIdx b = some k) : k < 12 := by
  unfold mIdx at h
  have := (List.findIdx?_eq_some_iff_findIdx_eq.mp h).1
  exact this
noncomputable def is12 (c : Int) : Bool := decide (c = 1) || decide (c = 2)
theorem in_12 {K : Frag} {c : Int} : inA K σ (.int c) (.tup [.int 1, .int 2]) = some (is12 c) := by
  simp only [in_int, intsOf, Option.map_some, List.any_cons, List.any_nil, Bool.or_false, is12]
  rw [Option.some_inj, Bool.eq_iff_iff]
  simp
  omega
theorem q466 (t : List Nat) (h : ascii t = true) (hl : t.length ≤ 40) : evf P (n + 300) (d + 4) 466 [.str t] σ = some (.ok (match dayR t with
    | some (y, k, b) => .tup [.int y, .int k, .int b]
    | none => .none), σ) := by
  rw [evf, evFn_s, F466.2]
  dsimp only [F466]
  have hl' : t.length ≤ 100000 := by omega
  have ok := @sp_ok 45 t h hl
  have ln := @sp_len 45 t
  have hp' : dayR t = match splitL 45 t with
    | [a, b, c] => if figs a = true ∧ figs c = true ∧ a.length ≤ 2 ∧ c.length = 4 ∧ dayI (figVal c) (mnum b) (figVal a) = true then some ((figVal c : Int), mnum b, (figVal a : Int)) else none
    | _ => none := rfl
  rw [hp']
  simp [-bnd, -stm, -opt, -mk, evSs_nil, evSs_cons, evS_asg, evS_asgC, evS_asgAt, evS_asgT, evS_expr, evS_ret, evS_ite, evS_raise, evS_try, evE_const, evE_var, evE_not, evE_and, evE_or, evE_ite, evE_bin, evE_cmp, evE_cmp2, evE_call, evE_meth, evE_at, evE_data, evE_sub, evE_slice, evE_tup, evE_list, evE_comp, evT_s, evAll_nil, evAll_cons, evEs_nil, evEs_cons, evO_none, evO_some, evCall_b, evCall_t, evCall_r, evHs, cmpA, binA, bnd_ok, bnd_exc, stm_ok, stm_exc, optv, AV.free, AV.frees, wireC, kindT, eq_int, eq_str, eq_bytes, ti_tup, eq_loc, mb_join, mb_split, mb_lower, mb_upper, mb_pop, mb_indexL, mb_indexV, mb_append, cb_lenS, cb_lenB, cb_lenL, cb_ord, cb_chr, cb_bytesB, cb_bytesL, cb_barr, cb_intS, cb_intI, getL, getL0, setL, setL0, takeL, takeS, takeLk, hl', mk]
  generalize splitL 45 t = parts at ok ln
  have ln' : parts.length ≤ 100000 := by omega
  by_cases h3 : parts.length = 3
  rotate_left
  · have h3i : ¬ (parts.length : Int) = 3 := by omega
    have : (match parts with
      | [a, b, c] => if figs a = true ∧ figs c = true ∧ a.length ≤ 2 ∧ c.length = 4 ∧ dayI (figVal c) (mnum b) (figVal a) = true then some ((figVal c : Int), mnum b, (figVal a : Int)) else none
      | _ => none) = none := by
      split
      · exact absurd rfl h3
      · rfl
    rw [this]
    simp [-bnd, -stm, -opt, -mk, evSs_nil, evSs_cons, evS_asg, evS_asgC, evS_asgAt, evS_asgT, evS_expr, evS_ret, evS_ite, evS_raise, evS_try, evE_const, evE_var, evE_not, evE_and, evE_or, evE_ite, evE_bin, evE_cmp, evE_cmp2, evE_call, evE_meth, evE_at, evE_data, evE_sub, evE_slice, evE_tup, evE_list, evE_comp, evT_s, evAll_nil, evAll_cons, evEs_nil, evEs_cons, evO_none, evO_some, evCall_b, evCall_t, evCall_r, evHs, cmpA, binA, bnd_ok, bnd_exc, stm_ok, stm_exc, optv, AV.free, AV.frees, wireC, kindT, eq_int, eq_str, eq_bytes, ti_tup, eq_loc, mb_join, mb_split, mb_lower, mb_upper, mb_pop, mb_indexL, mb_indexV, mb_append, cb_lenS, cb_lenB, cb_lenL, cb_ord, cb_chr, cb_bytesB, cb_bytesL, cb_barr, cb_intS, cb_intI, getL, getL0, setL, setL0, takeL, takeS, takeLk, ln', h3i, mk]
  obtain ⟨a, b, c, rfl⟩ : ∃ a b c, parts = [a, b, c] := by
    match parts, h3 with
    | [a, b, c], _ => exact ⟨a, b, c, rfl⟩
  clear hp'
  have oa := ok a (by simp)
  have ob := ok b (by simp)
  have oc := ok c (by simp)
  clear ok ln ln' h3
  have la : a.length ≤ 100000 := by omega
  have lb : b.length ≤ 100000 := by omega
  have lc : c.length ≤ 100000 := by omega
  have la2 : a.length ≤ 100 := by omega
  have lc2 : c.length ≤ 100 := by omega
  dsimp only
  by_cases h6 : is12 (a.length : Int) = true
  rotate_left
  · have : ¬ (figs a = true ∧ figs c = true ∧ a.length ≤ 2 ∧ c.length = 4 ∧ dayI (figVal c) (mnum b) (figVal a) = true) := by
      rintro ⟨z, _, z2, _⟩
      have : a ≠ [] := by intro e; subst e; exact absurd z (by decide)
      have := List.length_pos_iff.mpr this
      simp [is12] at h6
      omega
    rw [if_neg this]
    have h6' : is12 (a.length : Int) = false := by simpa using h6
    simp [-bnd, -stm, -opt, -mk, evSs_nil, evSs_cons, evS_asg, evS_asgC, evS_asgAt, evS_asgT, evS_expr, evS_ret, evS_ite, evS_raise, evS_try, evE_const, evE_var, evE_not, evE_and, evE_or, evE_ite, evE_bin, evE_cmp, evE_cmp2, evE_call, evE_meth, evE_at, evE_data, evE_sub, evE_slice, evE_tup, evE_list, evE_comp, evT_s, evAll_nil, evAll_cons, evEs_nil, evEs_cons, evO_none, evO_some, evCall_b, evCall_t, evCall_r, evHs, cmpA, binA, bnd_ok, bnd_exc, stm_ok, stm_exc, optv, AV.free, AV.frees, wireC, kindT, eq_int, eq_str, eq_bytes, ti_tup, eq_loc, mb_join, mb_split, mb_lower, mb_upper, mb_pop, mb_indexL, mb_indexV, mb_append, cb_lenS, cb_lenB, cb_lenL, cb_ord, cb_chr, cb_bytesB, cb_bytesL, cb_barr, cb_intS, cb_intI, getL, getL0, setL, setL0, takeL, takeS, takeLk, subA, in_12, la, h6', mk]
  have h6n : a.length ≤ 2 := by simp [is12] at h6; omega
  have na : a ≠ [] := by rintro rfl; exact absurd h6 (by decide)
  by_cases h7 : (c.length : Int) = 4
  rotate_left
  · have : ¬ (figs a = true ∧ figs c = true ∧ a.length ≤ 2 ∧ c.length = 4 ∧ dayI (figVal c) (mnum b) (figVal a) = true) := by
      rintro ⟨_, _, _, z, _⟩
      omega
    rw [if_neg this]
    simp [-bnd, -stm, -opt, -mk, evSs_nil, evSs_cons, evS_asg, evS_asgC, evS_asgAt, evS_asgT, evS_expr, evS_ret, evS_ite, evS_raise, evS_try, evE_const, evE_var, evE_not, evE_and, evE_or, evE_ite, evE_bin, evE_cmp, evE_cmp2, evE_call, evE_meth, evE_at, evE_data, evE_sub, evE_slice, evE_tup, evE_list, evE_comp, evT_s, evAll_nil, evAll_cons, evEs_nil, evEs_cons, evO_none, evO_some, evCall_b, evCall_t, evCall_r, evHs, cmpA, binA, bnd_ok, bnd_exc, stm_ok, stm_exc, optv, AV.free, AV.frees, wireC, kindT, eq_int, eq_str, eq_bytes, ti_tup, eq_loc, mb_join, mb_split, mb_lower, mb_upper, mb_pop, mb_indexL, mb_indexV, mb_append, cb_lenS, cb_lenB, cb_lenL, cb_ord, cb_chr, cb_bytesB, cb_bytesL, cb_barr, cb_intS, cb_intI, getL, getL0, setL, setL0, takeL, takeS, takeLk, subA, in_12, la, lc, h6, h7, mk]
  have h7n : c.length = 4 := by omega
  have nc : c ≠ [] := by rintro rfl; simp at h7n
  have hm := @mem_idx b
  cases hk : mIdx b with
  | none =>
    have : ¬ (figs a = true ∧ figs c = true ∧ a.length ≤ 2 ∧ c.length = 4 ∧ dayI (figVal c) (mnum b) (figVal a) = true) := by
      rintro ⟨_, _, _, _, z⟩
      simp [dayI, mnum, hk] at z
    rw [if_neg this]
    rw [hk] at hm
    have hm : ¬ b.map lowerN ∈ monL := by simpa using hm
    simp [-bnd, -stm, -opt, -mk, evSs_nil, evSs_cons, evS_asg, evS_asgC, evS_asgAt, evS_asgT, evS_expr, evS_ret, evS_ite, evS_raise, evS_try, evE_const, evE_var, evE_not, evE_and, evE_or, evE_ite, evE_bin, evE_cmp, evE_cmp2, evE_call, evE_meth, evE_at, evE_data, evE_sub, evE_slice, evE_tup, evE_list, evE_comp, evT_s, evAll_nil, evAll_cons, evEs_nil, evEs_cons, evO_none, evO_some, evCall_b, evCall_t, evCall_r, evHs, cmpA, binA, bnd_ok, bnd_exc, stm_ok, stm_exc, optv, AV.free, AV.frees, wireC, kindT, eq_int, eq_str, eq_bytes, ti_tup, eq_loc, mb_join, mb_split, mb_lower, mb_upper, mb_pop, mb_indexL, mb_indexV, mb_append, cb_lenS, cb_lenB, cb_lenL, cb_ord, cb_chr, cb_bytesB, cb_bytesL, cb_barr, cb_intS, cb_intI, getL, getL0, setL, setL0, takeL, takeS, takeLk, subA, in_12, in_val, t425, strsOf_map1, la, lb, lc, ob, h6, h7, hm, mk]
  | some k =>
    rw [hk] at hm
    have hm : b.map lowerN ∈ monL := by simpa using hm
    have hk12 := mIdx_lt hk
    have hk' : monL.findIdx? (· == b.map lowerN) = some k := hk
    have hasc : ascii (a ++ c) = true := by
      simp only [ascii, List.all_append, Bool.and_eq_true]
      exact ⟨oa.1, oc.1⟩
    have hlen : (a ++ c).length ≤ 80 := by rw [List.length_append]; omega
    have lac : a.length + c.length ≤ 100000 := by omega
    have hall : (a ++ c).all isFigN = true ↔ figs a = true ∧ figs c = true := by
      rw [figs_eq, figs_eq, List.all_append, Bool.and_eq_true, Bool.and_eq_true, Bool.and_eq_true, bne_iff_ne, bne_iff_ne]
      exact ⟨fun x => ⟨⟨na, x.1⟩, nc, x.2⟩, fun x => ⟨x.1.2, x.2.2⟩⟩
    generalize hac : a ++ c = ac at hasc hlen hall
    have hcomp : ∀ σ', evComp (KP P) (cF (KP P)) (n + 292) (d + 3) (.var 0) (some (.cmp .nin (.var 0) (.const (.str [48, 49, 50, 51, 52, 53, 54, 55, 56, 57])))) (ac.map fun c => .str [c]) σ' = some (.ok ((ac.map fun c => .str [c]).filter fNoFig), σ') := fun σ' => by
      have := comp_filter (K := KP P) (FT := cF (KP P)) (d := d + 3) (σ := σ') (f := id) (p := fNoFig) (el := .var 0) (t := .cmp .nin (.var 0) (.const (.str [48, 49, 50, 51, 52, 53, 54, 55, 56, 57]))) (c := 20) (vs := ac.map fun c => .str [c]) (fun v hv k hk => by
        simp only [List.mem_map] at hv
        obtain ⟨x, _, rfl⟩ := hv
        obtain ⟨k, rfl⟩ : ∃ j, k = j + 20 := ⟨k - 20, by omega⟩
        simp [-List.contains_cons, -List.contains_eq_mem, -bnd, -stm, -opt, -mk, evSs_nil, evSs_cons, evS_asg, evS_asgC, evS_asgAt, evS_asgT, evS_expr, evS_ret, evS_ite, evS_raise, evS_try, evE_const, evE_var, evE_not, evE_and, evE_or, evE_ite, evE_bin, evE_cmp, evE_cmp2, evE_call, evE_meth, evE_at, evE_data, evE_sub, evE_slice, evE_tup, evE_list, evE_comp, evT_s, evAll_nil, evAll_cons, evEs_nil, evEs_cons, evO_none, evO_some, evCall_b, evCall_t, evCall_r, evHs, cmpA, binA, bnd_ok, bnd_exc, stm_ok, stm_exc, optv, AV.free, AV.frees, wireC, kindT, eq_int, eq_str, eq_bytes, ti_tup, eq_loc, mb_join, mb_split, mb_lower, mb_upper, mb_pop, mb_indexL, mb_indexV, mb_append, cb_lenS, cb_lenB, cb_lenL, cb_ord, cb_chr, cb_bytesB, cb_bytesL, cb_barr, cb_intS, cb_intI, getL, getL0, setL, setL0, takeL, takeS, takeLk, fNoFig, in_one, dig_contains]) (fun v hv k hk => by
        obtain ⟨k, rfl⟩ : ∃ j, k = j + 20 := ⟨k - 20, by omega⟩
        simp [-bnd, -stm, -opt, -mk, evSs_nil, evSs_cons, evS_asg, evS_asgC, evS_asgAt, evS_asgT, evS_expr, evS_ret, evS_ite, evS_raise, evS_try, evE_const, evE_var, evE_not, evE_and, evE_or, evE_ite, evE_bin, evE_cmp, evE_cmp2, evE_call, evE_meth, evE_at, evE_data, evE_sub, evE_slice, evE_tup, evE_list, evE_comp, evT_s, evAll_nil, evAll_cons, evEs_nil, evEs_cons, evO_none, evO_some, evCall_b, evCall_t, evCall_r, evHs, cmpA, binA, bnd_ok, bnd_exc, stm_ok, stm_exc, optv, AV.free, AV.frees, wireC, kindT, eq_int, eq_str, eq_bytes, ti_tup, eq_loc, mb_join, mb_split, mb_lower, mb_upper, mb_pop, mb_indexL, mb_indexV, mb_append, cb_lenS, cb_lenB, cb_lenL, cb_ord, cb_chr, cb_bytesB, cb_bytesL, cb_barr, cb_intS, cb_intI, getL, getL0, setL, setL0, takeL, takeS, takeLk]) (k := n + 292) (by simp; omega)
      rw [this, List.map_id]
    have h1 := noFig_plain ac hasc
    have h2 := noFig_frees ac
    have h3 := noFig_all ac
    have h4 := noFig_len ac
    generalize hg : (ac.map fun c => AV.str [c]).filter fNoFig = vs at h1 h2 h3 h4 hcomp
    have h5 : vs.length ≤ 100000 := by omega
    simp only [List.all_eq_true] at h1
    by_cases hf : vs = []
    rotate_left
    · have : ¬ (figs a = true ∧ figs c = true ∧ a.length ≤ 2 ∧ c.length = 4 ∧ dayI (figVal c) (mnum b) (figVal a) = true) := by
        rintro ⟨z1, z2, _⟩
        have := hall.mpr ⟨z1, z2⟩
        rw [← h3, List.isEmpty_iff] at this
        exact hf this
      rw [if_neg this]
      simp [-bnd, -stm, -opt, -mk, evSs_nil, evSs_cons, evS_asg, evS_asgC, evS_asgAt, evS_asgT, evS_expr, evS_ret, evS_ite, evS_raise, evS_try, evE_const, evE_var, evE_not, evE_and, evE_or, evE_ite, evE_bin, evE_cmp, evE_cmp2, evE_call, evE_meth, evE_at, evE_data, evE_sub, evE_slice, evE_tup, evE_list, evE_comp, evT_s, evAll_nil, evAll_cons, evEs_nil, evEs_cons, evO_none, evO_some, evCall_b, evCall_t, evCall_r, evHs, cmpA, binA, bnd_ok, bnd_exc, stm_ok, stm_exc, optv, AV.free, AV.frees, wireC, kindT, eq_int, eq_str, eq_bytes, ti_tup, eq_loc, mb_join, mb_split, mb_lower, mb_upper, mb_pop, mb_indexL, mb_indexV, mb_append, cb_lenS, cb_lenB, cb_lenL, cb_ord, cb_chr, cb_bytesB, cb_bytesL, cb_barr, cb_intS, cb_intI, getL, getL0, setL, setL0, takeL, takeS, takeLk, subA, in_12, in_val, t425, strsOf_map1, la, lb, lc, ob, h6, h7, hm, lac, hac, iterA, hasc, hcomp, h2, h5, hf, mk]
      rw [if_pos h1]
      simp [-bnd, -stm, -opt, -mk, evSs_nil, evSs_cons, evS_asg, evS_asgC, evS_asgAt, evS_asgT, evS_expr, evS_ret, evS_ite, evS_raise, evS_try, evE_const, evE_var, evE_not, evE_and, evE_or, evE_ite, evE_bin, evE_cmp, evE_cmp2, evE_call, evE_meth, evE_at, evE_data, evE_sub, evE_slice, evE_tup, evE_list, evE_comp, evT_s, evAll_nil, evAll_cons, evEs_nil, evEs_cons, evO_none, evO_some, evCall_b, evCall_t, evCall_r, evHs, cmpA, binA, bnd_ok, bnd_exc, stm_ok, stm_exc, optv, AV.free, AV.frees, wireC, kindT, eq_int, eq_str, eq_bytes, ti_tup, eq_loc, mb_join, mb_split, mb_lower, mb_upper, mb_pop, mb_indexL, mb_indexV, mb_append, cb_lenS, cb_lenB, cb_lenL, cb_ord, cb_chr, cb_bytesB, cb_bytesL, cb_barr, cb_intS, cb_intI, getL, getL0, setL, setL0, takeL, takeS, takeLk, hf]
    subst hf
    have hff := hall.mp (by rw [← h3]; rfl)
    have h9 := figVal_4 (by have := hff.2; rw [figs_eq, Bool.and_eq_true] at this; exact this.2) h7n
    have hmn : mnum b = (k : Int) + 1 := by unfold mnum; rw [hk]
    simp only [hmn]
    have day_iff : (figs a = true ∧ figs c = true ∧ a.length ≤ 2 ∧ c.length = 4 ∧ dayI (figVal c) ((k : Int) + 1) (figVal a) = true) ↔ 0 < figVal c ∧ (1 ≤ (figVal a : Int) ∧ (figVal a : Int) ≤ longI (figVal c) ((k : Int) + 1)) := by
      simp only [dayI, Bool.and_eq_true, decide_eq_true_eq]
      refine ⟨fun x => ?_, fun x => ⟨hff.1, hff.2, h6n, h7n, ?_⟩⟩
      · obtain ⟨_, _, _, _, z⟩ := x
        exact ⟨by omega, by omega, z.2.2⟩
      · exact ⟨⟨by omega, by omega, by omega⟩, x.2.1, x.2.2⟩
    simp only [day_iff]
    clear day_iff
    by_cases h10 : 0 < figVal c
    rotate_left
    · simp [-bnd, -stm, -opt, -mk, evSs_nil, evSs_cons, evS_asg, evS_asgC, evS_asgAt, evS_asgT, evS_expr, evS_ret, evS_ite, evS_raise, evS_try, evE_const, evE_var, evE_not, evE_and, evE_or, evE_ite, evE_bin, evE_cmp, evE_cmp2, evE_call, evE_meth, evE_at, evE_data, evE_sub, evE_slice, evE_tup, evE_list, evE_comp, evT_s, evAll_nil, evAll_cons, evEs_nil, evEs_cons, evO_none, evO_some, evCall_b, evCall_t, evCall_r, evHs, cmpA, binA, bnd_ok, bnd_exc, stm_ok, stm_exc, optv, AV.free, AV.frees, wireC, kindT, eq_int, eq_str, eq_bytes, ti_tup, eq_loc, mb_join, mb_split, mb_lower, mb_upper, mb_pop, mb_indexL, mb_indexV, mb_append, cb_lenS, cb_lenB, cb_lenL, cb_ord, cb_chr, cb_bytesB, cb_bytesL, cb_barr, cb_intS, cb_intI, getL, getL0, setL, setL0, takeL, takeS, takeLk, putAll, subA, in_12, in_val, t425, strsOf_map1, la, lb, lc, la2, lc2, ob, h6, h7, hm, lac, hac, iterA, hasc, hcomp, hff, hk', q461, mk, h10]
    by_cases h11 : 1 ≤ (figVal a : Int)
    rotate_left
    · simp [-bnd, -stm, -opt, -mk, evSs_nil, evSs_cons, evS_asg, evS_asgC, evS_asgAt, evS_asgT, evS_expr, evS_ret, evS_ite, evS_raise, evS_try, evE_const, evE_var, evE_not, evE_and, evE_or, evE_ite, evE_bin, evE_cmp, evE_cmp2, evE_call, evE_meth, evE_at, evE_data, evE_sub, evE_slice, evE_tup, evE_list, evE_comp, evT_s, evAll_nil, evAll_cons, evEs_nil, evEs_cons, evO_none, evO_some, evCall_b, evCall_t, evCall_r, evHs, cmpA, binA, bnd_ok, bnd_exc, stm_ok, stm_exc, optv, AV.free, AV.frees, wireC, kindT, eq_int, eq_str, eq_bytes, ti_tup, eq_loc, mb_join, mb_split, mb_lower, mb_upper, mb_pop, mb_indexL, mb_indexV, mb_append, cb_lenS, cb_lenB, cb_lenL, cb_ord, cb_chr, cb_bytesB, cb_bytesL, cb_barr, cb_intS, cb_intI, getL, getL0, setL, setL0, takeL, takeS, takeLk, putAll, subA, in_12, in_val, t425, strsOf_map1, la, lb, lc, la2, lc2, ob, h6, h7, hm, lac, hac, iterA, hasc, hcomp, hff, hk', q461, mk, h10, h11]
    by_cases h12 : (figVal a : Int) ≤ longI (figVal c) ((k : Int) + 1)
    rotate_left
    · simp [-bnd, -stm, -opt, -mk, evSs_nil, evSs_cons, evS_asg, evS_asgC, evS_asgAt, evS_asgT, evS_expr, evS_ret, evS_ite, evS_raise, evS_try, evE_const, evE_var, evE_not, evE_and, evE_or, evE_ite, evE_bin, evE_cmp, evE_cmp2, evE_call, evE_meth, evE_at, evE_data, evE_sub, evE_slice, evE_tup, evE_list, evE_comp, evT_s, evAll_nil, evAll_cons, evEs_nil, evEs_cons, evO_none, evO_some, evCall_b, evCall_t, evCall_r, evHs, cmpA, binA, bnd_ok, bnd_exc, stm_ok, stm_exc, optv, AV.free, AV.frees, wireC, kindT, eq_int, eq_str, eq_bytes, ti_tup, eq_loc, mb_join, mb_split, mb_lower, mb_upper, mb_pop, mb_indexL, mb_indexV, mb_append, cb_lenS, cb_lenB, cb_lenL, cb_ord, cb_chr, cb_bytesB, cb_bytesL, cb_barr, cb_intS, cb_intI, getL, getL0, setL, setL0, takeL, takeS, takeLk, putAll, subA, in_12, in_val, t425, strsOf_map1, la, lb, lc, la2, lc2, ob, h6, h7, hm, lac, hac, iterA, hasc, hcomp, hff, hk', q461, mk, h10, h11, h12]
    · simp [-bnd, -stm, -opt, -mk, evSs_nil, evSs_cons, evS_asg, evS_asgC, evS_asgAt, evS_asgT, evS_expr, evS_ret, evS_ite, evS_raise, evS_try, evE_const, evE_var, evE_not, evE_and, evE_or, evE_ite, evE_bin, evE_cmp, evE_cmp2, evE_call, evE_meth, evE_at, evE_data, evE_sub, evE_slice, evE_tup, evE_list, evE_comp, evT_s, evAll_nil, evAll_cons, evEs_nil, evEs_cons, evO_none, evO_some, evCall_b, evCall_t, evCall_r, evHs, cmpA, binA, bnd_ok, bnd_exc, stm_ok, stm_exc, optv, AV.free, AV.frees, wireC, kindT, eq_int, eq_str, eq_bytes, ti_tup, eq_loc, mb_join, mb_split, mb_lower, mb_upper, mb_pop, mb_indexL, mb_indexV, mb_append, cb_lenS, cb_lenB, cb_lenL, cb_ord, cb_chr, cb_bytesB, cb_bytesL, cb_barr, cb_intS, cb_intI, getL, getL0, setL, setL0, takeL, takeS, takeLk, putAll, subA, in_12, in_val, t425, strsOf_map1, la, lb, lc, la2, lc2, ob, h6, h7, hm, lac, hac, iterA, hasc, hcomp, hff, hk', q461, mk, h10, h11, h12]
end
end Mine
end

section
open PySem PySem.W PyProof.Rows
set_option maxRecDepth 100000
set_option linter.unusedSimpArgs false
set_option linter.unusedVariables false
set_option maxHeartbeats 1000000
namespace Mine
section
variable {K : Frag} {FT : Addr → Option Fn} {d : Nat} {σ : List TO}
theorem whil_rule {c : IE} {b : List IS} {C : Nat} (S : Nat → Lo × List TO) : ∀ (r i : Nat), (∀ j, i ≤ j → j < i + r → ∀ N, C ≤ N → evT K FT N d (S j).1 c (S j).2 = some (.ok true, (S j).2) ∧ evSs K FT N d b (S j).1 (S j).2 = some (.nxt, (S (j + 1)).1, (S (j + 1)).2)) →
    (∀ N, C ≤ N → evT K FT N d (S (i + r)).1 c (S (i + r)).2 = some (.ok false, (S (i + r)).2)) → ∀ {N m σ}, r + C + 1 ≤ N → (m, σ) = S i → evS K FT N d (.whil c b) m σ = some (.nxt, (S (i + r)).1, (S (i + r)).2)
  | 0, i, _, h1, N, m, σ, hN, e => by
    obtain ⟨N, rfl⟩ : ∃ k, N = k + 1 := ⟨N - 1, by omega⟩
    have h := h1 N (by omega)
    simp only [Nat.add_zero] at h ⊢
    rw [← e] at h ⊢
    rw [evS_whil, h]
  | r + 1, i, h0, h1, N, m, σ, hN, e => by
    obtain ⟨N, rfl⟩ : ∃ k, N = k + 1 := ⟨N - 1, by omega⟩
    have h := h0 i (Nat.le_refl _) (by omega) N (by omega)
    rw [← e] at h
    rw [evS_whil, h.1]
    dsimp only
    rw [h.2]
    dsimp only
    have := whil_rule S r (i + 1) (fun j a b => h0 j (by omega) (by omega)) (by rw [show i + 1 + r = i + (r + 1) by omega]; exact h1) (N := N) (m := (S (i + 1)).1) (σ := (S (i + 1)).2) (by omega) rfl
    rw [this, show i + 1 + r = i + (r + 1) by omega]
theorem sb_bytes {b : List UInt8} {i : Int} : subA K σ (.bytes b) (.int i) = if 0 ≤ i ∧ b.length ≤ 100000 then (b[i.toNat]?).map fun c => .int (c.toNat : Int) else none := rfl
theorem in_by {c : UInt8} {l : List UInt8} : inA K σ (.int (c.toNat : Int)) (.bytes l) = some (l.contains c) := by
  have h : c.toNat < 256 := c.toNat_lt
  unfold inA
  dsimp only
  rw [if_pos ⟨by omega, by omega⟩]
  simp
end
noncomputable def pk (D : List UInt8) (a : Int) : Int := match D[a.toNat]? with
  | some c => (c.toNat : Int)
  | none => -1

section
variable (P : Params) (n d : Nat) (m : Lo) (σ s τ : List TO)
theorem q264 (D : List UInt8) (a : Int) (ha : 0 ≤ a) (hl : D.length ≤ 100000) : evf P (n + 40) (d + 1) 264 [.wire s.length] (s ++ .wire D a :: τ) = some (.ok (.int (pk D a)), s ++ .wire D a :: τ) := by
  rw [evf, evFn_s, F264.2]
  dsimp only [F264]
  by_cases h : a < D.length
  · have hk : a.toNat < D.length := by omega
    have e : D[a.toNat]? = some D[a.toNat] := List.getElem?_eq_getElem hk
    simp [-bnd, -stm, -opt, -mk, evSs_nil, evSs_cons, evS_asg, evS_asgC, evS_asgAt, evS_asgT, evS_expr, evS_ret, evS_ite, evS_raise, evS_try, evE_const, evE_var, evE_not, evE_and, evE_or, evE_ite, evE_bin, evE_cmp, evE_cmp2, evE_call, evE_meth, evE_at, evE_data, evE_sub, evE_slice, evE_tup, evE_list, evE_comp, evT_s, evAll_nil, evAll_cons, evEs_nil, evEs_cons, evO_none, evO_some, evCall_b, evCall_t, evCall_r, evHs, cmpA, binA, bnd_ok, bnd_exc, stm_ok, stm_exc, optv, AV.free, AV.frees, wireC, kindT, eq_int, eq_str, eq_bytes, ti_tup, eq_loc, mb_join, mb_split, mb_lower, mb_upper, mb_pop, mb_indexL, mb_indexV, mb_append, cb_lenS, cb_lenB, cb_lenL, cb_ord, cb_chr, cb_bytesB, cb_bytesL, cb_barr, cb_intS, cb_intI, getL, getL0, setL, setL0, takeL, takeS, takeLk, hl, h, sb_bytes, ha, e, pk]
  · have hk : D.length ≤ a.toNat := by omega
    have e : D[a.toNat]? = none := List.getElem?_eq_none hk
    simp [-bnd, -stm, -opt, -mk, evSs_nil, evSs_cons, evS_asg, evS_asgC, evS_asgAt, evS_asgT, evS_expr, evS_ret, evS_ite, evS_raise, evS_try, evE_const, evE_var, evE_not, evE_and, evE_or, evE_ite, evE_bin, evE_cmp, evE_cmp2, evE_call, evE_meth, evE_at, evE_data, evE_sub, evE_slice, evE_tup, evE_list, evE_comp, evT_s, evAll_nil, evAll_cons, evEs_nil, evEs_cons, evO_none, evO_some, evCall_b, evCall_t, evCall_r, evHs, cmpA, binA, bnd_ok, bnd_exc, stm_ok, stm_exc, optv, AV.free, AV.frees, wireC, kindT, eq_int, eq_str, eq_bytes, ti_tup, eq_loc, mb_join, mb_split, mb_lower, mb_upper, mb_pop, mb_indexL, mb_indexV, mb_append, cb_lenS, cb_lenB, cb_lenL, cb_ord, cb_chr, cb_bytesB, cb_bytesL, cb_barr, cb_intS, cb_intI, getL, getL0, setL, setL0, takeL, takeS, takeLk, hl, h, pk, e]
theorem q257 (D : List UInt8) (a : Int) (w : List Nat) : evf P (n + 40) (d + 1) 257 [.wire s.length, .str w] (s ++ .wire D a :: τ) = some (.ok (.loc (s.length + (τ.length + 1))), s ++ .wire D a :: (τ ++ [.exc 71 a .fresh])) := by
  rw [evf, evFn_s, F257.2]
  dsimp only [F257]
  simp [-bnd, -stm, -opt, -mk, evSs_nil, evSs_cons, evS_asg, evS_asgC, evS_asgAt, evS_asgT, evS_expr, evS_ret, evS_ite, evS_raise, evS_try, evE_const, evE_var, evE_not, evE_and, evE_or, evE_ite, evE_bin, evE_cmp, evE_cmp2, evE_call, evE_meth, evE_at, evE_data, evE_sub, evE_slice, evE_tup, evE_list, evE_comp, evT_s, evAll_nil, evAll_cons, evEs_nil, evEs_cons, evO_none, evO_some, evCall_b, evCall_t, evCall_r, evHs, cmpA, binA, bnd_ok, bnd_exc, stm_ok, stm_exc, optv, AV.free, AV.frees, wireC, kindT, eq_int, eq_str, eq_bytes, ti_tup, eq_loc, mb_join, mb_split, mb_lower, mb_upper, mb_pop, mb_indexL, mb_indexV, mb_append, cb_lenS, cb_lenB, cb_lenL, cb_ord, cb_chr, cb_bytesB, cb_bytesL, cb_barr, cb_intS, cb_intI, getL, getL0, setL, setL0, takeL, takeS, takeLk, callC, mk]
theorem q271 (D o : List UInt8) (a : Int) (ha : 0 ≤ a) (hl : D.length ≤ 100000) (ho : o.length ≤ 100000) : evf P (n + 60) (d + 1) 271 [.wire s.length, .bytes o] (s ++ .wire D a :: τ) =
    if (D.take (a.toNat + o.length)).drop a.toNat = o then some (.ok (.bool true), s ++ .wire D (a + o.length) :: τ) else some (.ok (.bool false), s ++ .wire D a :: τ) := by
  rw [evf, evFn_s, F271.2]
  dsimp only [F271]
  have e : (a + (o.length : Int)).toNat = a.toNat + o.length := by omega
  have e2 : 0 ≤ a + (o.length : Int) := by omega
  by_cases h : (D.take (a.toNat + o.length)).drop a.toNat = o
  · simp [-bnd, -stm, -opt, -mk, evSs_nil, evSs_cons, evS_asg, evS_asgC, evS_asgAt, evS_asgT, evS_expr, evS_ret, evS_ite, evS_raise, evS_try, evE_const, evE_var, evE_not, evE_and, evE_or, evE_ite, evE_bin, evE_cmp, evE_cmp2, evE_call, evE_meth, evE_at, evE_data, evE_sub, evE_slice, evE_tup, evE_list, evE_comp, evT_s, evAll_nil, evAll_cons, evEs_nil, evEs_cons, evO_none, evO_some, evCall_b, evCall_t, evCall_r, evHs, cmpA, binA, bnd_ok, bnd_exc, stm_ok, stm_exc, optv, AV.free, AV.frees, wireC, kindT, eq_int, eq_str, eq_bytes, ti_tup, eq_loc, mb_join, mb_split, mb_lower, mb_upper, mb_pop, mb_indexL, mb_indexV, mb_append, cb_lenS, cb_lenB, cb_lenL, cb_ord, cb_chr, cb_bytesB, cb_bytesL, cb_barr, cb_intS, cb_intI, getL, getL0, setL, setL0, takeL, takeS, takeLk, hl, ho, ha, sliceA, optI, sliceL, e, e2, h]
  · simp [-bnd, -stm, -opt, -mk, evSs_nil, evSs_cons, evS_asg, evS_asgC, evS_asgAt, evS_asgT, evS_expr, evS_ret, evS_ite, evS_raise, evS_try, evE_const, evE_var, evE_not, evE_and, evE_or, evE_ite, evE_bin, evE_cmp, evE_cmp2, evE_call, evE_meth, evE_at, evE_data, evE_sub, evE_slice, evE_tup, evE_list, evE_comp, evT_s, evAll_nil, evAll_cons, evEs_nil, evEs_cons, evO_none, evO_some, evCall_b, evCall_t, evCall_r, evHs, cmpA, binA, bnd_ok, bnd_exc, stm_ok, stm_exc, optv, AV.free, AV.frees, wireC, kindT, eq_int, eq_str, eq_bytes, ti_tup, eq_loc, mb_join, mb_split, mb_lower, mb_upper, mb_pop, mb_indexL, mb_indexV, mb_append, cb_lenS, cb_lenB, cb_lenL, cb_ord, cb_chr, cb_bytesB, cb_bytesL, cb_barr, cb_intS, cb_intI, getL, getL0, setL, setL0, takeL, takeS, takeLk, hl, ho, ha, sliceA, optI, sliceL, e, e2, h]
theorem q278 (D o : List UInt8) (w : List Nat) (a : Int) (ha : 0 ≤ a) (hl : D.length ≤ 100000) (ho : o.length ≤ 100000) (h : (D.take (a.toNat + o.length)).drop a.toNat = o) : evf P (n + 90) (d + 2) 278 [.wire s.length, .bytes o, .str w] (s ++ .wire D a :: τ) =
    some (.ok .none, s ++ .wire D (a + o.length) :: τ) := by
  rw [evf, evFn_s, F278.2]
  dsimp only [F278]
  simp [-bnd, -stm, -opt, -mk, evSs_nil, evSs_cons, evS_asg, evS_asgC, evS_asgAt, evS_asgT, evS_expr, evS_ret, evS_ite, evS_raise, evS_try, evE_const, evE_var, evE_not, evE_and, evE_or, evE_ite, evE_bin, evE_cmp, evE_cmp2, evE_call, evE_meth, evE_at, evE_data, evE_sub, evE_slice, evE_tup, evE_list, evE_comp, evT_s, evAll_nil, evAll_cons, evEs_nil, evEs_cons, evO_none, evO_some, evCall_b, evCall_t, evCall_r, evHs, cmpA, binA, bnd_ok, bnd_exc, stm_ok, stm_exc, optv, AV.free, AV.frees, wireC, kindT, eq_int, eq_str, eq_bytes, ti_tup, eq_loc, mb_join, mb_split, mb_lower, mb_upper, mb_pop, mb_indexL, mb_indexV, mb_append, cb_lenS, cb_lenB, cb_lenL, cb_ord, cb_chr, cb_bytesB, cb_bytesL, cb_barr, cb_intS, cb_intI, getL, getL0, setL, setL0, takeL, takeS, takeLk, q271, ha, hl, ho, h]
theorem q285 (D : List UInt8) (hl : D.length + 1 ≤ 100000) : evf P (n + 120) (d + 3) 285 [.wire s.length] (s ++ .wire (32 :: D) 0 :: τ) =
    some (.ok .none, s ++ .wire (32 :: D) 1 :: τ) := by
  rw [evf, evFn_s, F285.2]
  dsimp only [F285]
  simp [-bnd, -stm, -opt, -mk, evSs_nil, evSs_cons, evS_asg, evS_asgC, evS_asgAt, evS_asgT, evS_expr, evS_ret, evS_ite, evS_raise, evS_try, evE_const, evE_var, evE_not, evE_and, evE_or, evE_ite, evE_bin, evE_cmp, evE_cmp2, evE_call, evE_meth, evE_at, evE_data, evE_sub, evE_slice, evE_tup, evE_list, evE_comp, evT_s, evAll_nil, evAll_cons, evEs_nil, evEs_cons, evO_none, evO_some, evCall_b, evCall_t, evCall_r, evHs, cmpA, binA, bnd_ok, bnd_exc, stm_ok, stm_exc, optv, AV.free, AV.frees, wireC, kindT, eq_int, eq_str, eq_bytes, ti_tup, eq_loc, mb_join, mb_split, mb_lower, mb_upper, mb_pop, mb_indexL, mb_indexV, mb_append, cb_lenS, cb_lenB, cb_lenL, cb_ord, cb_chr, cb_bytesB, cb_bytesL, cb_barr, cb_intS, cb_intI, getL, getL0, setL, setL0, takeL, takeS, takeLk, q278, hl]
theorem q200 (c : UInt8) : evf P (n + 30) (d + 1) 200 [.int (c.toNat : Int)] σ = some (.ok (.bool (decide (33 ≤ c.toNat) && decide (c.toNat ≤ 126))), σ) := by
  rw [evf, evFn_s, F200.2]
  dsimp only [F200]
  by_cases h1 : 33 ≤ (c.toNat : Int)
  · have h1n : 33 ≤ c.toNat := by omega
    by_cases h2 : (c.toNat : Int) ≤ 126
    · have h2n : c.toNat ≤ 126 := by omega
      simp [-bnd, -stm, -opt, -mk, evSs_nil, evSs_cons, evS_asg, evS_asgC, evS_asgAt, evS_asgT, evS_expr, evS_ret, evS_ite, evS_raise, evS_try, evE_const, evE_var, evE_not, evE_and, evE_or, evE_ite, evE_bin, evE_cmp, evE_cmp2, evE_call, evE_meth, evE_at, evE_data, evE_sub, evE_slice, evE_tup, evE_list, evE_comp, evT_s, evAll_nil, evAll_cons, evEs_nil, evEs_cons, evO_none, evO_some, evCall_b, evCall_t, evCall_r, evHs, cmpA, binA, bnd_ok, bnd_exc, stm_ok, stm_exc, optv, AV.free, AV.frees, wireC, kindT, eq_int, eq_str, eq_bytes, ti_tup, eq_loc, mb_join, mb_split, mb_lower, mb_upper, mb_pop, mb_indexL, mb_indexV, mb_append, cb_lenS, cb_lenB, cb_lenL, cb_ord, cb_chr, cb_bytesB, cb_bytesL, cb_barr, cb_intS, cb_intI, getL, getL0, setL, setL0, takeL, takeS, takeLk, h1, h2, h1n, h2n]
    · have h2n : ¬ c.toNat ≤ 126 := by omega
      simp [-bnd, -stm, -opt, -mk, evSs_nil, evSs_cons, evS_asg, evS_asgC, evS_asgAt, evS_asgT, evS_expr, evS_ret, evS_ite, evS_raise, evS_try, evE_const, evE_var, evE_not, evE_and, evE_or, evE_ite, evE_bin, evE_cmp, evE_cmp2, evE_call, evE_meth, evE_at, evE_data, evE_sub, evE_slice, evE_tup, evE_list, evE_comp, evT_s, evAll_nil, evAll_cons, evEs_nil, evEs_cons, evO_none, evO_some, evCall_b, evCall_t, evCall_r, evHs, cmpA, binA, bnd_ok, bnd_exc, stm_ok, stm_exc, optv, AV.free, AV.frees, wireC, kindT, eq_int, eq_str, eq_bytes, ti_tup, eq_loc, mb_join, mb_split, mb_lower, mb_upper, mb_pop, mb_indexL, mb_indexV, mb_append, cb_lenS, cb_lenB, cb_lenL, cb_ord, cb_chr, cb_bytesB, cb_bytesL, cb_barr, cb_intS, cb_intI, getL, getL0, setL, setL0, takeL, takeS, takeLk, h1, h2, h1n, h2n]
  · have h1n : ¬ 33 ≤ c.toNat := by omega
    simp [-bnd, -stm, -opt, -mk, evSs_nil, evSs_cons, evS_asg, evS_asgC, evS_asgAt, evS_asgT, evS_expr, evS_ret, evS_ite, evS_raise, evS_try, evE_const, evE_var, evE_not, evE_and, evE_or, evE_ite, evE_bin, evE_cmp, evE_cmp2, evE_call, evE_meth, evE_at, evE_data, evE_sub, evE_slice, evE_tup, evE_list, evE_comp, evT_s, evAll_nil, evAll_cons, evEs_nil, evEs_cons, evO_none, evO_some, evCall_b, evCall_t, evCall_r, evHs, cmpA, binA, bnd_ok, bnd_exc, stm_ok, stm_exc, optv, AV.free, AV.frees, wireC, kindT, eq_int, eq_str, eq_bytes, ti_tup, eq_loc, mb_join, mb_split, mb_lower, mb_upper, mb_pop, mb_indexL, mb_indexV, mb_append, cb_lenS, cb_lenB, cb_lenL, cb_ord, cb_chr, cb_bytesB, cb_bytesL, cb_barr, cb_intS, cb_intI, getL, getL0, setL, setL0, takeL, takeS, takeLk, h1, h1n]
noncomputable def isAtomC (c : UInt8) : Bool := decide (33 ≤ c.toNat) && decide (c.toNat ≤ 126) && !([40, 41, 123, 37, 42, 34, 92, 93] : List UInt8).contains c
theorem q207 (c : UInt8) : evf P (n + 60) (d + 2) 207 [.int (c.toNat : Int)] σ = some (.ok (.bool (isAtomC c)), σ) := by
  rw [evf, evFn_s, F207.2]
  dsimp only [F207]
  cases h1 : (decide (33 ≤ c.toNat) && decide (c.toNat ≤ 126)) <;> cases h2 : ([40, 41, 123, 37, 42, 34, 92, 93] : List UInt8).contains c <;>
    simp [-Bool.and_eq_true, -Bool.and_eq_false_imp, -List.contains_cons, -List.contains_eq_mem, -decide_eq_true_eq, -bnd, -stm, -opt, -mk, evSs_nil, evSs_cons, evS_asg, evS_asgC, evS_asgAt, evS_asgT, evS_expr, evS_ret, evS_ite, evS_raise, evS_try, evE_const, evE_var, evE_not, evE_and, evE_or, evE_ite, evE_bin, evE_cmp, evE_cmp2, evE_call, evE_meth, evE_at, evE_data, evE_sub, evE_slice, evE_tup, evE_list, evE_comp, evT_s, evAll_nil, evAll_cons, evEs_nil, evEs_cons, evO_none, evO_some, evCall_b, evCall_t, evCall_r, evHs, cmpA, binA, bnd_ok, bnd_exc, stm_ok, stm_exc, optv, AV.free, AV.frees, wireC, kindT, eq_int, eq_str, eq_bytes, ti_tup, eq_loc, mb_join, mb_split, mb_lower, mb_upper, mb_pop, mb_indexL, mb_indexV, mb_append, cb_lenS, cb_lenB, cb_lenL, cb_ord, cb_chr, cb_bytesB, cb_bytesL, cb_barr, cb_intS, cb_intI, getL, getL0, setL, setL0, takeL, takeS, takeLk, q200, in_by, isAtomC, h1, h2]
noncomputable def isAstC (c : UInt8) : Bool := isAtomC c || decide (c = 93)
theorem q214 (c : UInt8) : evf P (n + 90) (d + 3) 214 [.int (c.toNat : Int)] σ = some (.ok (.bool (isAstC c)), σ) := by
  rw [evf, evFn_s, F214.2]
  dsimp only [F214]
  by_cases h2 : c = 93
  · subst h2
    have h1 : isAtomC 93 = false := by decide +kernel
    have h3 : evf P (n + 82) (d + 2) 207 [.int 93] σ = some (.ok (.bool false), σ) := by
      have := q207 P (n + 22) d σ 93
      rw [h1] at this
      exact this
    simp [-bnd, -stm, -opt, -mk, evSs_nil, evSs_cons, evS_asg, evS_asgC, evS_asgAt, evS_asgT, evS_expr, evS_ret, evS_ite, evS_raise, evS_try, evE_const, evE_var, evE_not, evE_and, evE_or, evE_ite, evE_bin, evE_cmp, evE_cmp2, evE_call, evE_meth, evE_at, evE_data, evE_sub, evE_slice, evE_tup, evE_list, evE_comp, evT_s, evAll_nil, evAll_cons, evEs_nil, evEs_cons, evO_none, evO_some, evCall_b, evCall_t, evCall_r, evHs, cmpA, binA, bnd_ok, bnd_exc, stm_ok, stm_exc, optv, AV.free, AV.frees, wireC, kindT, eq_int, eq_str, eq_bytes, ti_tup, eq_loc, mb_join, mb_split, mb_lower, mb_upper, mb_pop, mb_indexL, mb_indexV, mb_append, cb_lenS, cb_lenB, cb_lenL, cb_ord, cb_chr, cb_bytesB, cb_bytesL, cb_barr, cb_intS, cb_intI, getL, getL0, setL, setL0, takeL, takeS, takeLk, isAstC, h3]
  · have h3 : ¬ (c.toNat : Int) = 93 := fun e => h2 (UInt8.toNat_inj.mp (by rw [show (93 : UInt8).toNat = 93 from rfl]; omega))
    cases h1 : isAtomC c <;> simp [-bnd, -stm, -opt, -mk, evSs_nil, evSs_cons, evS_asg, evS_asgC, evS_asgAt, evS_asgT, evS_expr, evS_ret, evS_ite, evS_raise, evS_try, evE_const, evE_var, evE_not, evE_and, evE_or, evE_ite, evE_bin, evE_cmp, evE_cmp2, evE_call, evE_meth, evE_at, evE_data, evE_sub, evE_slice, evE_tup, evE_list, evE_comp, evT_s, evAll_nil, evAll_cons, evEs_nil, evEs_cons, evO_none, evO_some, evCall_b, evCall_t, evCall_r, evHs, cmpA, binA, bnd_ok, bnd_exc, stm_ok, stm_exc, optv, AV.free, AV.frees, wireC, kindT, eq_int, eq_str, eq_bytes, ti_tup, eq_loc, mb_join, mb_split, mb_lower, mb_upper, mb_pop, mb_indexL, mb_indexV, mb_append, cb_lenS, cb_lenB, cb_lenL, cb_ord, cb_chr, cb_bytesB, cb_bytesL, cb_barr, cb_intS, cb_intI, getL, getL0, setL, setL0, takeL, takeS, takeLk, q207, isAstC, h1, h2, h3]
noncomputable def isFigC (c : UInt8) : Bool := decide (48 ≤ c.toNat) && decide (c.toNat ≤ 57)
theorem q228 (c : UInt8) : evf P (n + 30) (d + 1) 228 [.int (c.toNat : Int)] σ = some (.ok (.bool (isFigC c)), σ) := by
  rw [evf, evFn_s, F228.2]
  dsimp only [F228]
  by_cases h1 : 48 ≤ (c.toNat : Int)
  · have h1n : 48 ≤ c.toNat := by omega
    by_cases h2 : (c.toNat : Int) ≤ 57
    · have h2n : c.toNat ≤ 57 := by omega
      simp [-bnd, -stm, -opt, -mk, evSs_nil, evSs_cons, evS_asg, evS_asgC, evS_asgAt, evS_asgT, evS_expr, evS_ret, evS_ite, evS_raise, evS_try, evE_const, evE_var, evE_not, evE_and, evE_or, evE_ite, evE_bin, evE_cmp, evE_cmp2, evE_call, evE_meth, evE_at, evE_data, evE_sub, evE_slice, evE_tup, evE_list, evE_comp, evT_s, evAll_nil, evAll_cons, evEs_nil, evEs_cons, evO_none, evO_some, evCall_b, evCall_t, evCall_r, evHs, cmpA, binA, bnd_ok, bnd_exc, stm_ok, stm_exc, optv, AV.free, AV.frees, wireC, kindT, eq_int, eq_str, eq_bytes, ti_tup, eq_loc, mb_join, mb_split, mb_lower, mb_upper, mb_pop, mb_indexL, mb_indexV, mb_append, cb_lenS, cb_lenB, cb_lenL, cb_ord, cb_chr, cb_bytesB, cb_bytesL, cb_barr, cb_intS, cb_intI, getL, getL0, setL, setL0, takeL, takeS, takeLk, h1, h2, h1n, h2n, isFigC]
    · have h2n : ¬ c.toNat ≤ 57 := by omega
      simp [-bnd, -stm, -opt, -mk, evSs_nil, evSs_cons, evS_asg, evS_asgC, evS_asgAt, evS_asgT, evS_expr, evS_ret, evS_ite, evS_raise, evS_try, evE_const, evE_var, evE_not, evE_and, evE_or, evE_ite, evE_bin, evE_cmp, evE_cmp2, evE_call, evE_meth, evE_at, evE_data, evE_sub, evE_slice, evE_tup, evE_list, evE_comp, evT_s, evAll_nil, evAll_cons, evEs_nil, evEs_cons, evO_none, evO_some, evCall_b, evCall_t, evCall_r, evHs, cmpA, binA, bnd_ok, bnd_exc, stm_ok, stm_exc, optv, AV.free, AV.frees, wireC, kindT, eq_int, eq_str, eq_bytes, ti_tup, eq_loc, mb_join, mb_split, mb_lower, mb_upper, mb_pop, mb_indexL, mb_indexV, mb_append, cb_lenS, cb_lenB, cb_lenL, cb_ord, cb_chr, cb_bytesB, cb_bytesL, cb_barr, cb_intS, cb_intI, getL, getL0, setL, setL0, takeL, takeS, takeLk, h1, h2, h1n, h2n, isFigC]
  · have h1n : ¬ 48 ≤ c.toNat := by omega
    simp [-bnd, -stm, -opt, -mk, evSs_nil, evSs_cons, evS_asg, evS_asgC, evS_asgAt, evS_asgT, evS_expr, evS_ret, evS_ite, evS_raise, evS_try, evE_const, evE_var, evE_not, evE_and, evE_or, evE_ite, evE_bin, evE_cmp, evE_cmp2, evE_call, evE_meth, evE_at, evE_data, evE_sub, evE_slice, evE_tup, evE_list, evE_comp, evT_s, evAll_nil, evAll_cons, evEs_nil, evEs_cons, evO_none, evO_some, evCall_b, evCall_t, evCall_r, evHs, cmpA, binA, bnd_ok, bnd_exc, stm_ok, stm_exc, optv, AV.free, AV.frees, wireC, kindT, eq_int, eq_str, eq_bytes, ti_tup, eq_loc, mb_join, mb_split, mb_lower, mb_upper, mb_pop, mb_indexL, mb_indexV, mb_append, cb_lenS, cb_lenB, cb_lenL, cb_ord, cb_chr, cb_bytesB, cb_bytesL, cb_barr, cb_intS, cb_intI, getL, getL0, setL, setL0, takeL, takeS, takeLk, h1, h1n, isFigC]
theorem q235 (x y : UInt8) : evf P (n + 60) (d + 1) 235 [.bytes [x, y]] σ = some (.ok (.int (((x.toNat : Int) - 48) * 10 + y.toNat - 48)), σ) := by
  rw [evf, evFn_s, F235.2]
  dsimp only [F235]
  simp [-bnd, -stm, -opt, -mk, evSs_nil, evSs_cons, evS_asg, evS_asgC, evS_asgAt, evS_asgT, evS_expr, evS_ret, evS_ite, evS_raise, evS_try, evE_const, evE_var, evE_not, evE_and, evE_or, evE_ite, evE_bin, evE_cmp, evE_cmp2, evE_call, evE_meth, evE_at, evE_data, evE_sub, evE_slice, evE_tup, evE_list, evE_comp, evT_s, evAll_nil, evAll_cons, evEs_nil, evEs_cons, evO_none, evO_some, evCall_b, evCall_t, evCall_r, evHs, cmpA, binA, bnd_ok, bnd_exc, stm_ok, stm_exc, optv, AV.free, AV.frees, wireC, kindT, eq_int, eq_str, eq_bytes, ti_tup, eq_loc, mb_join, mb_split, mb_lower, mb_upper, mb_pop, mb_indexL, mb_indexV, mb_append, cb_lenS, cb_lenB, cb_lenL, cb_ord, cb_chr, cb_bytesB, cb_bytesL, cb_barr, cb_intS, cb_intI, getL, getL0, setL, setL0, takeL, takeS, takeLk, evS_for, iterA, evFor_nil, evFor_cons, putT]
end
end Mine
end

section
open PySem PySem.W PyProof.Rows
set_option maxRecDepth 100000
set_option linter.unusedSimpArgs false
set_option linter.unusedVariables false
set_option maxHeartbeats 1000000
namespace Mine
section
variable (P : Params) (n d : Nat) (m : Lo) (σ s τ : List TO)
theorem q299 (f : Addr) (p : UInt8 → Bool) (hf : ∀ n d σ (c : UInt8), evf P (n + 90) (d + 3) f [.int (c.toNat : Int)] σ = some (.ok (.bool (p c)), σ)) (hfn : f ≠ 420 ∧ f ≠ 59 ∧ f ≠ 71 ∧ f ≠ 83)
    (D : List UInt8) (a : Int) (r : Nat) (ha : 0 ≤ a) (hl : D.length ≤ 100000) (hr : r ≤ 50) (h0 : ∀ j, j < r → ∃ c, D[a.toNat + j]? = some c ∧ p c = true) (h1 : D[a.toNat + r]? = none ∨ ∃ c, D[a.toNat + r]? = some c ∧ p c = false) :
    evf P (n + 200) (d + 4) 299 [.wire s.length, .val (.ref f)] (s ++ [.wire D a]) = some (.ok (.bytes ((D.take (a.toNat + r)).drop a.toNat)), s ++ [.wire D (a + r)]) := by
  rw [evf, evFn_s, F299.2]
  dsimp only [F299]
  simp [-bnd, -stm, -opt, -mk, evSs_nil, evSs_cons, evS_asg, evS_asgC, evS_asgAt, evS_asgT, evS_expr, evS_ret, evS_ite, evS_raise, evS_try, evE_const, evE_var, evE_not, evE_and, evE_or, evE_ite, evE_bin, evE_cmp, evE_cmp2, evE_call, evE_meth, evE_at, evE_data, evE_sub, evE_slice, evE_tup, evE_list, evE_comp, evT_s, evAll_nil, evAll_cons, evEs_nil, evEs_cons, evO_none, evO_some, evCall_b, evCall_t, evCall_r, evHs, cmpA, binA, bnd_ok, bnd_exc, stm_ok, stm_exc, optv, AV.free, AV.frees, wireC, kindT, eq_int, eq_str, eq_bytes, ti_tup, eq_loc, mb_join, mb_split, mb_lower, mb_upper, mb_pop, mb_indexL, mb_indexV, mb_append, cb_lenS, cb_lenB, cb_lenL, cb_ord, cb_chr, cb_bytesB, cb_bytesL, cb_barr, cb_intS, cb_intI, getL, getL0, setL, setL0, takeL, takeS, takeLk]
  rw [whil_rule (C := 120) (fun j => ([some (.wire s.length), some (.val (.ref f)), some (.int a), none], s ++ [.wire D (a + j)])) r 0 ?_ ?_ (by omega) (by simp)]
  · have e : (a + (r : Int)).toNat = a.toNat + r := by omega
    have e2 : 0 ≤ a + (r : Int) := by omega
    simp [-bnd, -stm, -opt, -mk, evSs_nil, evSs_cons, evS_asg, evS_asgC, evS_asgAt, evS_asgT, evS_expr, evS_ret, evS_ite, evS_raise, evS_try, evE_const, evE_var, evE_not, evE_and, evE_or, evE_ite, evE_bin, evE_cmp, evE_cmp2, evE_call, evE_meth, evE_at, evE_data, evE_sub, evE_slice, evE_tup, evE_list, evE_comp, evT_s, evAll_nil, evAll_cons, evEs_nil, evEs_cons, evO_none, evO_some, evCall_b, evCall_t, evCall_r, evHs, cmpA, binA, bnd_ok, bnd_exc, stm_ok, stm_exc, optv, AV.free, AV.frees, wireC, kindT, eq_int, eq_str, eq_bytes, ti_tup, eq_loc, mb_join, mb_split, mb_lower, mb_upper, mb_pop, mb_indexL, mb_indexV, mb_append, cb_lenS, cb_lenB, cb_lenL, cb_ord, cb_chr, cb_bytesB, cb_bytesL, cb_barr, cb_intS, cb_intI, getL, getL0, setL, setL0, takeL, takeS, takeLk, sliceA, optI, sliceL, ha, hl, e, e2]
  · intro j _ hj N hN
    obtain ⟨N, rfl⟩ : ∃ k, N = k + 120 := ⟨N - 120, by omega⟩
    obtain ⟨c, hc, hp⟩ := h0 j (by omega)
    have hlt : a.toNat + j < D.length := by
      rcases Nat.lt_or_ge (a.toNat + j) D.length with z | z
      · exact z
      · rw [List.getElem?_eq_none z] at hc; cases hc
    have e : (a + (j : Int)).toNat = a.toNat + j := by omega
    have e2 : 0 ≤ a + (j : Int) := by omega
    have e3 : a + (j : Int) < (D.length : Int) := by omega
    have e4 : a + (j : Int) + 1 = a + ((j : Int) + 1) := by omega
    constructor
    · simp [-bnd, -stm, -opt, -mk, evSs_nil, evSs_cons, evS_asg, evS_asgC, evS_asgAt, evS_asgT, evS_expr, evS_ret, evS_ite, evS_raise, evS_try, evE_const, evE_var, evE_not, evE_and, evE_or, evE_ite, evE_bin, evE_cmp, evE_cmp2, evE_call, evE_meth, evE_at, evE_data, evE_sub, evE_slice, evE_tup, evE_list, evE_comp, evT_s, evAll_nil, evAll_cons, evEs_nil, evEs_cons, evO_none, evO_some, evCall_b, evCall_t, evCall_r, evHs, cmpA, binA, bnd_ok, bnd_exc, stm_ok, stm_exc, optv, AV.free, AV.frees, wireC, kindT, eq_int, eq_str, eq_bytes, ti_tup, eq_loc, mb_join, mb_split, mb_lower, mb_upper, mb_pop, mb_indexL, mb_indexV, mb_append, cb_lenS, cb_lenB, cb_lenL, cb_ord, cb_chr, cb_bytesB, cb_bytesL, cb_barr, cb_intS, cb_intI, getL, getL0, setL, setL0, takeL, takeS, takeLk, hl, sb_bytes, e, e2, e3, hc, hfn, hf, hp]
    · simp [-bnd, -stm, -opt, -mk, evSs_nil, evSs_cons, evS_asg, evS_asgC, evS_asgAt, evS_asgT, evS_expr, evS_ret, evS_ite, evS_raise, evS_try, evE_const, evE_var, evE_not, evE_and, evE_or, evE_ite, evE_bin, evE_cmp, evE_cmp2, evE_call, evE_meth, evE_at, evE_data, evE_sub, evE_slice, evE_tup, evE_list, evE_comp, evT_s, evAll_nil, evAll_cons, evEs_nil, evEs_cons, evO_none, evO_some, evCall_b, evCall_t, evCall_r, evHs, cmpA, binA, bnd_ok, bnd_exc, stm_ok, stm_exc, optv, AV.free, AV.frees, wireC, kindT, eq_int, eq_str, eq_bytes, ti_tup, eq_loc, mb_join, mb_split, mb_lower, mb_upper, mb_pop, mb_indexL, mb_indexV, mb_append, cb_lenS, cb_lenB, cb_lenL, cb_ord, cb_chr, cb_bytesB, cb_bytesL, cb_barr, cb_intS, cb_intI, getL, getL0, setL, setL0, takeL, takeS, takeLk, e4]
  · intro N hN
    obtain ⟨N, rfl⟩ : ∃ k, N = k + 120 := ⟨N - 120, by omega⟩
    have e : (a + (r : Int)).toNat = a.toNat + r := by omega
    have e2 : 0 ≤ a + (r : Int) := by omega
    by_cases e3 : a + (r : Int) < (D.length : Int)
    · rcases h1 with h1 | ⟨c, hc, hp⟩
      · rw [List.getElem?_eq_none_iff] at h1; omega
      · simp [-bnd, -stm, -opt, -mk, evSs_nil, evSs_cons, evS_asg, evS_asgC, evS_asgAt, evS_asgT, evS_expr, evS_ret, evS_ite, evS_raise, evS_try, evE_const, evE_var, evE_not, evE_and, evE_or, evE_ite, evE_bin, evE_cmp, evE_cmp2, evE_call, evE_meth, evE_at, evE_data, evE_sub, evE_slice, evE_tup, evE_list, evE_comp, evT_s, evAll_nil, evAll_cons, evEs_nil, evEs_cons, evO_none, evO_some, evCall_b, evCall_t, evCall_r, evHs, cmpA, binA, bnd_ok, bnd_exc, stm_ok, stm_exc, optv, AV.free, AV.frees, wireC, kindT, eq_int, eq_str, eq_bytes, ti_tup, eq_loc, mb_join, mb_split, mb_lower, mb_upper, mb_pop, mb_indexL, mb_indexV, mb_append, cb_lenS, cb_lenB, cb_lenL, cb_ord, cb_chr, cb_bytesB, cb_bytesL, cb_barr, cb_intS, cb_intI, getL, getL0, setL, setL0, takeL, takeS, takeLk, hl, sb_bytes, e, e2, e3, hc, hfn, hf, hp]
    · simp [-bnd, -stm, -opt, -mk, evSs_nil, evSs_cons, evS_asg, evS_asgC, evS_asgAt, evS_asgT, evS_expr, evS_ret, evS_ite, evS_raise, evS_try, evE_const, evE_var, evE_not, evE_and, evE_or, evE_ite, evE_bin, evE_cmp, evE_cmp2, evE_call, evE_meth, evE_at, evE_data, evE_sub, evE_slice, evE_tup, evE_list, evE_comp, evT_s, evAll_nil, evAll_cons, evEs_nil, evEs_cons, evO_none, evO_some, evCall_b, evCall_t, evCall_r, evHs, cmpA, binA, bnd_ok, bnd_exc, stm_ok, stm_exc, optv, AV.free, AV.frees, wireC, kindT, eq_int, eq_str, eq_bytes, ti_tup, eq_loc, mb_join, mb_split, mb_lower, mb_upper, mb_pop, mb_indexL, mb_indexV, mb_append, cb_lenS, cb_lenB, cb_lenL, cb_ord, cb_chr, cb_bytesB, cb_bytesL, cb_barr, cb_intS, cb_intI, getL, getL0, setL, setL0, takeL, takeS, takeLk, hl, e3]
noncomputable def quoC (c : UInt8) : Bool := decide (1 ≤ c.toNat) && decide (c.toNat ≤ 127) && decide (c ≠ 34) && decide (c ≠ 92) && decide (c ≠ 13) && decide (c ≠ 10)
theorem u8_int {c : UInt8} {k : UInt8} (h : c ≠ k) : ¬ (c.toNat : Int) = (k.toNat : Int) := fun e => h (UInt8.toNat_inj.mp (by omega))
theorem q355 (t rest : List UInt8) (hl : t.length ≤ 50) (hrest : rest.length ≤ 50) (hq : t.all quoC = true) :
    evf P (n + 400) (d + 4) 355 [.wire s.length] (s ++ [.wire (32 :: 34 :: (t ++ 34 :: rest)) 1]) = some (.ok (.bytes t), s ++ [.wire (32 :: 34 :: (t ++ 34 :: rest)) (t.length + 3)]) := by
  rw [evf, evFn_s, F355.2]
  dsimp only [F355]
  have hD : t.length + (rest.length + 1) + 1 + 1 ≤ 100000 := by omega
  have hDD : (32 :: 34 :: (t ++ 34 :: rest) : List UInt8).length ≤ 100000 := by simp; omega
  simp [-bnd, -stm, -opt, -mk, evSs_nil, evSs_cons, evS_asg, evS_asgC, evS_asgAt, evS_asgT, evS_expr, evS_ret, evS_ite, evS_raise, evS_try, evE_const, evE_var, evE_not, evE_and, evE_or, evE_ite, evE_bin, evE_cmp, evE_cmp2, evE_call, evE_meth, evE_at, evE_data, evE_sub, evE_slice, evE_tup, evE_list, evE_comp, evT_s, evAll_nil, evAll_cons, evEs_nil, evEs_cons, evO_none, evO_some, evCall_b, evCall_t, evCall_r, evHs, cmpA, binA, bnd_ok, bnd_exc, stm_ok, stm_exc, optv, AV.free, AV.frees, wireC, kindT, eq_int, eq_str, eq_bytes, ti_tup, eq_loc, mb_join, mb_split, mb_lower, mb_upper, mb_pop, mb_indexL, mb_indexV, mb_append, cb_lenS, cb_lenB, cb_lenL, cb_ord, cb_chr, cb_bytesB, cb_bytesL, cb_barr, cb_intS, cb_intI, getL, getL0, setL, setL0, takeL, takeS, takeLk, q278, hD, mk]
  generalize hDg : (32 :: 34 :: (t ++ 34 :: rest) : List UInt8) = D at hDD
  have get : ∀ j, j < t.length → ∃ c, D[2 + j]? = some c ∧ t[j]? = some c ∧ quoC c = true := fun j hj => by
    have e : t[j]? = some t[j] := List.getElem?_eq_getElem hj
    refine ⟨t[j], ?_, e, (List.all_eq_true.mp hq) _ (List.getElem_mem hj)⟩
    rw [← hDg, show 2 + j = j + 1 + 1 by omega, List.getElem?_cons_succ, List.getElem?_cons_succ, List.getElem?_append_left hj, e]
  have get1 : D[2 + t.length]? = some 34 := by
    rw [← hDg, show 2 + t.length = t.length + 1 + 1 by omega, List.getElem?_cons_succ, List.getElem?_cons_succ, getL0]; rfl
  rw [whil_rule (C := 200) (fun j => ([some (.wire s.length), some (.loc (s.length + 1)), none, none, none, none, none], s ++ [.wire D (2 + (j : Int)), .barr (t.take j)])) t.length 0 ?_ ?_ (by omega) (by simp)]
  · have e5 : (2 : Int) + (t.length : Int) + 1 = (t.length : Int) + 3 := by omega
    have e6 : t.length ≤ 100000 := by omega
    simp [-bnd, -stm, -opt, -mk, evSs_nil, evSs_cons, evS_asg, evS_asgC, evS_asgAt, evS_asgT, evS_expr, evS_ret, evS_ite, evS_raise, evS_try, evE_const, evE_var, evE_not, evE_and, evE_or, evE_ite, evE_bin, evE_cmp, evE_cmp2, evE_call, evE_meth, evE_at, evE_data, evE_sub, evE_slice, evE_tup, evE_list, evE_comp, evT_s, evAll_nil, evAll_cons, evEs_nil, evEs_cons, evO_none, evO_some, evCall_b, evCall_t, evCall_r, evHs, cmpA, binA, bnd_ok, bnd_exc, stm_ok, stm_exc, optv, AV.free, AV.frees, wireC, kindT, eq_int, eq_str, eq_bytes, ti_tup, eq_loc, mb_join, mb_split, mb_lower, mb_upper, mb_pop, mb_indexL, mb_indexV, mb_append, cb_lenS, cb_lenB, cb_lenL, cb_ord, cb_chr, cb_bytesB, cb_bytesL, cb_barr, cb_intS, cb_intI, getL, getL0, setL, setL0, takeL, takeS, takeLk, e5, e6]
  · intro j _ hj N hN
    obtain ⟨N, rfl⟩ : ∃ k, N = k + 200 := ⟨N - 200, by omega⟩
    obtain ⟨c, hc, ht, hp⟩ := get j (by omega)
    have e : (2 + (j : Int)).toNat = 2 + j := by omega
    have e2 : 0 ≤ 2 + (j : Int) := by omega
    have hpk : pk D (2 + (j : Int)) = (c.toNat : Int) := by unfold pk; rw [e, hc]
    simp only [quoC, Bool.and_eq_true, decide_eq_true_eq] at hp
    obtain ⟨⟨⟨⟨⟨p1, p2⟩, p3⟩, p4⟩, p5⟩, p6⟩ := hp
    have i1 : ¬ (c.toNat : Int) < 1 := by omega
    have i2 : ¬ 127 < (c.toNat : Int) := by omega
    have i3 := u8_int p3
    have i4 := u8_int p4
    rw [show (UInt8.toNat 34 : Int) = 34 from rfl] at i3
    rw [show (UInt8.toNat 92 : Int) = 92 from rfl] at i4
    have i5 : (c.toNat : Int) < 256 := by omega
    have e4 : 2 + (j : Int) + 1 = 2 + ((j : Int) + 1) := by omega
    have e7 : t.take (j + 1) = t.take j ++ [c] := by rw [List.take_add_one, ht]; rfl
    have e8 : min j t.length ≤ 100000 := by omega
    constructor
    · simp [-bnd, -stm, -opt, -mk, evSs_nil, evSs_cons, evS_asg, evS_asgC, evS_asgAt, evS_asgT, evS_expr, evS_ret, evS_ite, evS_raise, evS_try, evE_const, evE_var, evE_not, evE_and, evE_or, evE_ite, evE_bin, evE_cmp, evE_cmp2, evE_call, evE_meth, evE_at, evE_data, evE_sub, evE_slice, evE_tup, evE_list, evE_comp, evT_s, evAll_nil, evAll_cons, evEs_nil, evEs_cons, evO_none, evO_some, evCall_b, evCall_t, evCall_r, evHs, cmpA, binA, bnd_ok, bnd_exc, stm_ok, stm_exc, optv, AV.free, AV.frees, wireC, kindT, eq_int, eq_str, eq_bytes, ti_tup, eq_loc, mb_join, mb_split, mb_lower, mb_upper, mb_pop, mb_indexL, mb_indexV, mb_append, cb_lenS, cb_lenB, cb_lenL, cb_ord, cb_chr, cb_bytesB, cb_bytesL, cb_barr, cb_intS, cb_intI, getL, getL0, setL, setL0, takeL, takeS, takeLk, q264, e2, hDD, hpk, i3]
    · simp [-bnd, -stm, -opt, -mk, evSs_nil, evSs_cons, evS_asg, evS_asgC, evS_asgAt, evS_asgT, evS_expr, evS_ret, evS_ite, evS_raise, evS_try, evE_const, evE_var, evE_not, evE_and, evE_or, evE_ite, evE_bin, evE_cmp, evE_cmp2, evE_call, evE_meth, evE_at, evE_data, evE_sub, evE_slice, evE_tup, evE_list, evE_comp, evT_s, evAll_nil, evAll_cons, evEs_nil, evEs_cons, evO_none, evO_some, evCall_b, evCall_t, evCall_r, evHs, cmpA, binA, bnd_ok, bnd_exc, stm_ok, stm_exc, optv, AV.free, AV.frees, wireC, kindT, eq_int, eq_str, eq_bytes, ti_tup, eq_loc, mb_join, mb_split, mb_lower, mb_upper, mb_pop, mb_indexL, mb_indexV, mb_append, cb_lenS, cb_lenB, cb_lenL, cb_ord, cb_chr, cb_bytesB, cb_bytesL, cb_barr, cb_intS, cb_intI, getL, getL0, setL, setL0, takeL, takeS, takeLk, q264, e2, hDD, hpk, i1, i2, i3, i4, i5, p5, p6, in_by, e4, e7, e8]
  · intro N hN
    obtain ⟨N, rfl⟩ : ∃ k, N = k + 200 := ⟨N - 200, by omega⟩
    have e : (2 + (t.length : Int)).toNat = 2 + t.length := by omega
    have e2 : 0 ≤ 2 + (t.length : Int) := by omega
    have hpk : pk D (2 + (t.length : Int)) = 34 := by unfold pk; rw [e, get1]; rfl
    simp [-bnd, -stm, -opt, -mk, evSs_nil, evSs_cons, evS_asg, evS_asgC, evS_asgAt, evS_asgT, evS_expr, evS_ret, evS_ite, evS_raise, evS_try, evE_const, evE_var, evE_not, evE_and, evE_or, evE_ite, evE_bin, evE_cmp, evE_cmp2, evE_call, evE_meth, evE_at, evE_data, evE_sub, evE_slice, evE_tup, evE_list, evE_comp, evT_s, evAll_nil, evAll_cons, evEs_nil, evEs_cons, evO_none, evO_some, evCall_b, evCall_t, evCall_r, evHs, cmpA, binA, bnd_ok, bnd_exc, stm_ok, stm_exc, optv, AV.free, AV.frees, wireC, kindT, eq_int, eq_str, eq_bytes, ti_tup, eq_loc, mb_join, mb_split, mb_lower, mb_upper, mb_pop, mb_indexL, mb_indexV, mb_append, cb_lenS, cb_lenB, cb_lenL, cb_ord, cb_chr, cb_bytesB, cb_bytesL, cb_barr, cb_intS, cb_intI, getL, getL0, setL, setL0, takeL, takeS, takeLk, q264, e2, hDD, hpk]
theorem q362 (x y : UInt8) (t rest : List UInt8) (hl : t.length ≤ 50) (hrest : rest.length ≤ 50) (hx : isFigC x = true) (hy : isFigC y = true) (hn : ((x.toNat : Int) - 48) * 10 + y.toNat - 48 = t.length) :
    evf P (n + 300) (d + 6) 362 [.wire s.length] (s ++ [.wire (32 :: 123 :: x :: y :: 43 :: 125 :: 13 :: 10 :: (t ++ rest)) 1]) = some (.ok (.bytes t), s ++ [.wire (32 :: 123 :: x :: y :: 43 :: 125 :: 13 :: 10 :: (t ++ rest)) (8 + t.length)]) := by
  rw [evf, evFn_s, F362.2]
  dsimp only [F362]
  have hD : t.length + rest.length + 1 + 1 + 1 + 1 + 1 + 1 + 1 + 1 ≤ 100000 := by omega
  have h228 := fun n d σ c => q228 P (n + 60) (d + 2) σ c
  have hrun := q299 P (n + 95) (d + 1) s 228 isFigC h228 (by decide) (32 :: 123 :: x :: y :: 43 :: 125 :: 13 :: 10 :: (t ++ rest)) 2 2 (by decide) (by simp; omega) (by decide) (fun j hj => by
    rcases j with _ | _ | j
    · exact ⟨x, rfl, hx⟩
    · exact ⟨y, rfl, hy⟩
    · omega) (.inr ⟨43, rfl, by decide⟩)
  rw [show n + 95 + 200 = n + 295 from rfl, show d + 1 + 4 = d + 5 from rfl] at hrun
  simp at hrun
  have e1 : ¬ (t.length : Int) + rest.length + 1 + 1 + 1 + 1 + 1 + 1 + 1 + 1 < (8 : Int) + t.length := by omega
  have e2 : 0 ≤ (8 : Int) + t.length := by omega
  have e3 : ((8 : Int) + t.length).toNat = t.length + 8 := by omega
  simp [-bnd, -stm, -opt, -mk, evSs_nil, evSs_cons, evS_asg, evS_asgC, evS_asgAt, evS_asgT, evS_expr, evS_ret, evS_ite, evS_raise, evS_try, evE_const, evE_var, evE_not, evE_and, evE_or, evE_ite, evE_bin, evE_cmp, evE_cmp2, evE_call, evE_meth, evE_at, evE_data, evE_sub, evE_slice, evE_tup, evE_list, evE_comp, evT_s, evAll_nil, evAll_cons, evEs_nil, evEs_cons, evO_none, evO_some, evCall_b, evCall_t, evCall_r, evHs, cmpA, binA, bnd_ok, bnd_exc, stm_ok, stm_exc, optv, AV.free, AV.frees, wireC, kindT, eq_int, eq_str, eq_bytes, ti_tup, eq_loc, mb_join, mb_split, mb_lower, mb_upper, mb_pop, mb_indexL, mb_indexV, mb_append, cb_lenS, cb_lenB, cb_lenL, cb_ord, cb_chr, cb_bytesB, cb_bytesL, cb_barr, cb_intS, cb_intI, getL, getL0, setL, setL0, takeL, takeS, takeLk, q278, q271, q235, hD, hrun, hn, e1, e2, e3, sliceA, optI, sliceL]
end
end Mine
end

section
open PySem PySem.W PyProof.Rows
set_option maxRecDepth 100000
set_option linter.unusedSimpArgs false
set_option linter.unusedVariables false
set_option maxHeartbeats 1000000
namespace Mine
section
variable {K : Frag} {FT : Addr → Option Fn} {d : Nat} {σ : List TO}
theorem for_rule {ks : List Nat} {b : List IS} {C : Nat} (S : Nat → Lo × List TO) : ∀ (vs : List AV) (i : Nat), (∀ j v, vs[j]? = some v → ∀ N, C ≤ N → ∃ m', putT K ks v (S (i + j)).1 = some m' ∧ evSs K FT N d b m' (S (i + j)).2 = some (.nxt, (S (i + j + 1)).1, (S (i + j + 1)).2)) →
    ∀ {N m σ}, vs.length + C + 1 ≤ N → (m, σ) = S i → evFor K FT N d ks vs b m σ = some (.nxt, (S (i + vs.length)).1, (S (i + vs.length)).2)
  | [], i, _, N, m, σ, hN, e => by
    obtain ⟨N, rfl⟩ : ∃ k, N = k + 1 := ⟨N - 1, by omega⟩
    rw [evFor_nil]
    simp [← e]
  | v :: vs, i, h0, N, m, σ, hN, e => by
    simp only [List.length_cons] at hN
    obtain ⟨N, rfl⟩ : ∃ k, N = k + 1 := ⟨N - 1, by omega⟩
    obtain ⟨m', h1, h2⟩ := h0 0 v rfl N (by omega)
    simp only [Nat.add_zero] at h1 h2
    rw [← e] at h1 h2
    rw [evFor_cons, h1]
    dsimp only
    rw [h2]
    dsimp only
    have := for_rule S vs (i + 1) (fun j w hw N hN => by
      have := h0 (j + 1) w (by simpa using hw) N hN
      rw [show i + (j + 1) = i + 1 + j by omega] at this
      exact this) (N := N) (m := (S (i + 1)).1) (σ := (S (i + 1)).2) (by omega) rfl
    rw [this, List.length_cons, show i + 1 + vs.length = i + (vs.length + 1) by omega]
end
noncomputable def fChr : AV → AV
  | .int i => .str [i.toNat]
  | v => v
noncomputable def q112m (t : List UInt8) (j : Nat) : Option AV := match j with
  | 0 => none
  | k + 1 => some (.int (Int.ofNat k))
section
variable (P : Params) (n d : Nat) (m : Lo) (σ s τ : List TO)
theorem q112 (t : List UInt8) (hl : t.length ≤ 50) (ht : ∀ c ∈ t, c.toNat ≤ 127) : evf P (n + 200) (d + 1) 112 [.bytes t] σ = some (.ok (.str (t.map UInt8.toNat)), σ) := by
  rw [evf, evFn_s, F112.2]
  dsimp only [F112]
  have hl' : t.length ≤ 100000 := by omega
  have hl2 : (t.length : Int) ≤ 100000 := by omega
  simp [-bnd, -stm, -opt, -mk, evSs_nil, evSs_cons, evS_asg, evS_asgC, evS_asgAt, evS_asgT, evS_expr, evS_ret, evS_ite, evS_raise, evS_try, evE_const, evE_var, evE_not, evE_and, evE_or, evE_ite, evE_bin, evE_cmp, evE_cmp2, evE_call, evE_meth, evE_at, evE_data, evE_sub, evE_slice, evE_tup, evE_list, evE_comp, evT_s, evAll_nil, evAll_cons, evEs_nil, evEs_cons, evO_none, evO_some, evCall_b, evCall_t, evCall_r, evHs, cmpA, binA, bnd_ok, bnd_exc, stm_ok, stm_exc, optv, AV.free, AV.frees, wireC, kindT, eq_int, eq_str, eq_bytes, ti_tup, eq_loc, mb_join, mb_split, mb_lower, mb_upper, mb_pop, mb_indexL, mb_indexV, mb_append, cb_lenS, cb_lenB, cb_lenL, cb_ord, cb_chr, cb_bytesB, cb_bytesL, cb_barr, cb_intS, cb_intI, getL, getL0, setL, setL0, takeL, takeS, takeLk, evS_range, hl', hl2, iterA]
  rw [for_rule (C := 50) (fun j => ([some (.bytes t), q112m t j, none, none, none], σ)) _ 0 ?_ (by simp; omega) (by rfl)]
  · simp only [List.length_map, List.length_range, Nat.zero_add]
    simp [-bnd, -stm, -opt, -mk, evSs_nil, evSs_cons, evS_asg, evS_asgC, evS_asgAt, evS_asgT, evS_expr, evS_ret, evS_ite, evS_raise, evS_try, evE_const, evE_var, evE_not, evE_and, evE_or, evE_ite, evE_bin, evE_cmp, evE_cmp2, evE_call, evE_meth, evE_at, evE_data, evE_sub, evE_slice, evE_tup, evE_list, evE_comp, evT_s, evAll_nil, evAll_cons, evEs_nil, evEs_cons, evO_none, evO_some, evCall_b, evCall_t, evCall_r, evHs, cmpA, binA, bnd_ok, bnd_exc, stm_ok, stm_exc, optv, AV.free, AV.frees, wireC, kindT, eq_int, eq_str, eq_bytes, ti_tup, eq_loc, mb_join, mb_split, mb_lower, mb_upper, mb_pop, mb_indexL, mb_indexV, mb_append, cb_lenS, cb_lenB, cb_lenL, cb_ord, cb_chr, cb_bytesB, cb_bytesL, cb_barr, cb_intS, cb_intI, getL, getL0, setL, setL0, takeL, takeS, takeLk, iterA]
    rw [comp_map (f := fChr) (c := 50)]
    · have h1 : AV.frees (t.map fun c => AV.str [c.toNat]) = true := frees_map (fun _ => rfl) t
      have h2 := joinA_map (g := UInt8.toNat) (l := t) (by omega)
      simp [-bnd, -stm, -opt, -mk, evSs_nil, evSs_cons, evS_asg, evS_asgC, evS_asgAt, evS_asgT, evS_expr, evS_ret, evS_ite, evS_raise, evS_try, evE_const, evE_var, evE_not, evE_and, evE_or, evE_ite, evE_bin, evE_cmp, evE_cmp2, evE_call, evE_meth, evE_at, evE_data, evE_sub, evE_slice, evE_tup, evE_list, evE_comp, evT_s, evAll_nil, evAll_cons, evEs_nil, evEs_cons, evO_none, evO_some, evCall_b, evCall_t, evCall_r, evHs, cmpA, binA, bnd_ok, bnd_exc, stm_ok, stm_exc, optv, AV.free, AV.frees, wireC, kindT, eq_int, eq_str, eq_bytes, ti_tup, eq_loc, mb_join, mb_split, mb_lower, mb_upper, mb_pop, mb_indexL, mb_indexV, mb_append, cb_lenS, cb_lenB, cb_lenL, cb_ord, cb_chr, cb_bytesB, cb_bytesL, cb_barr, cb_intS, cb_intI, getL, getL0, setL, setL0, takeL, takeS, takeLk, Function.comp_def, fChr, h1, h2, hl', mk]
    · intro v hv k hk
      simp only [List.mem_map] at hv
      obtain ⟨c, hc, rfl⟩ := hv
      obtain ⟨k, rfl⟩ : ∃ j, k = j + 50 := ⟨k - 50, by omega⟩
      have h2 : (c.toNat : Int) < 256 := by have := ht c hc; omega
      simp [-bnd, -stm, -opt, -mk, evSs_nil, evSs_cons, evS_asg, evS_asgC, evS_asgAt, evS_asgT, evS_expr, evS_ret, evS_ite, evS_raise, evS_try, evE_const, evE_var, evE_not, evE_and, evE_or, evE_ite, evE_bin, evE_cmp, evE_cmp2, evE_call, evE_meth, evE_at, evE_data, evE_sub, evE_slice, evE_tup, evE_list, evE_comp, evT_s, evAll_nil, evAll_cons, evEs_nil, evEs_cons, evO_none, evO_some, evCall_b, evCall_t, evCall_r, evHs, cmpA, binA, bnd_ok, bnd_exc, stm_ok, stm_exc, optv, AV.free, AV.frees, wireC, kindT, eq_int, eq_str, eq_bytes, ti_tup, eq_loc, mb_join, mb_split, mb_lower, mb_upper, mb_pop, mb_indexL, mb_indexV, mb_append, cb_lenS, cb_lenB, cb_lenL, cb_ord, cb_chr, cb_bytesB, cb_bytesL, cb_barr, cb_intS, cb_intI, getL, getL0, setL, setL0, takeL, takeS, takeLk, fChr, h2]
    · simp; omega
  · intro j v hv N hN
    obtain ⟨N, rfl⟩ : ∃ k, N = k + 50 := ⟨N - 50, by omega⟩
    rw [List.getElem?_map, Option.map_eq_some_iff] at hv
    obtain ⟨i, hi, rfl⟩ := hv
    obtain ⟨hj, rfl⟩ : j < t.length ∧ i = j := by
      rw [List.getElem?_eq_some_iff] at hi
      obtain ⟨h1, h2⟩ := hi
      simp at h1 h2
      exact ⟨h1, h2.symm⟩
    refine ⟨_, rfl, ?_⟩
    have e : t[i]? = some t[i] := List.getElem?_eq_getElem hj
    have h2 : ¬ 127 < (t[i].toNat : Int) := by have := ht _ (List.getElem_mem hj); omega
    simp [-bnd, -stm, -opt, -mk, evSs_nil, evSs_cons, evS_asg, evS_asgC, evS_asgAt, evS_asgT, evS_expr, evS_ret, evS_ite, evS_raise, evS_try, evE_const, evE_var, evE_not, evE_and, evE_or, evE_ite, evE_bin, evE_cmp, evE_cmp2, evE_call, evE_meth, evE_at, evE_data, evE_sub, evE_slice, evE_tup, evE_list, evE_comp, evT_s, evAll_nil, evAll_cons, evEs_nil, evEs_cons, evO_none, evO_some, evCall_b, evCall_t, evCall_r, evHs, cmpA, binA, bnd_ok, bnd_exc, stm_ok, stm_exc, optv, AV.free, AV.frees, wireC, kindT, eq_int, eq_str, eq_bytes, ti_tup, eq_loc, mb_join, mb_split, mb_lower, mb_upper, mb_pop, mb_indexL, mb_indexV, mb_append, cb_lenS, cb_lenB, cb_lenL, cb_ord, cb_chr, cb_bytesB, cb_bytesL, cb_barr, cb_intS, cb_intI, getL, getL0, setL, setL0, takeL, takeS, takeLk, sb_bytes, hl', e, h2, q112m]
end
end Mine
end

section
open PySem PySem.W PyProof.Rows
set_option maxRecDepth 100000
set_option linter.unusedSimpArgs false
set_option linter.unusedVariables false
set_option maxHeartbeats 1000000
namespace Mine
section
variable (P : Params) (n d : Nat) (m : Lo) (σ s τ : List TO)
/-- what the reading of a string gives, by D -/
noncomputable def AstOk (P : Params) (D t : List UInt8) (e : Int) : Prop := ∀ n d s, evf P (n + 500) (d + 9) 383 [.wire s.length] (s ++ [.wire D 1]) = some (.ok (.bytes t), s ++ [.wire D e])
noncomputable def StrOk (P : Params) (D t : List UInt8) (e : Int) : Prop := ∀ n d s, evf P (n + 440) (d + 7) 369 [.wire s.length] (s ++ [.wire D 1]) = some (.ok (.bytes t), s ++ [.wire D e])
theorem ast_of {D t : List UInt8} {e : Int} (hD : D.length ≤ 100000) (hpk : pk D 1 = 34 ∨ pk D 1 = 123) (h : StrOk P D t e) : AstOk P D t e := fun n d s => by
  have h := h
  unfold StrOk at h
  have q : ∀ n d s, evf P (n + 470) (d + 8) 376 [.wire s.length, .val (.ref 214)] (s ++ [.wire D 1]) = some (.ok (.bytes t), s ++ [.wire D e]) := fun n d s => by
    rw [evf, evFn_s, F376.2]
    dsimp only [F376]
    rcases hpk with hpk | hpk <;> simp [-bnd, -stm, -opt, -mk, evSs_nil, evSs_cons, evS_asg, evS_asgC, evS_asgAt, evS_asgT, evS_expr, evS_ret, evS_ite, evS_raise, evS_try, evE_const, evE_var, evE_not, evE_and, evE_or, evE_ite, evE_bin, evE_cmp, evE_cmp2, evE_call, evE_meth, evE_at, evE_data, evE_sub, evE_slice, evE_tup, evE_list, evE_comp, evT_s, evAll_nil, evAll_cons, evEs_nil, evEs_cons, evO_none, evO_some, evCall_b, evCall_t, evCall_r, evHs, cmpA, binA, bnd_ok, bnd_exc, stm_ok, stm_exc, optv, AV.free, AV.frees, wireC, kindT, eq_int, eq_str, eq_bytes, ti_tup, eq_loc, mb_join, mb_split, mb_lower, mb_upper, mb_pop, mb_indexL, mb_indexV, mb_append, cb_lenS, cb_lenB, cb_lenL, cb_ord, cb_chr, cb_bytesB, cb_bytesL, cb_barr, cb_intS, cb_intI, getL, getL0, setL, setL0, takeL, takeS, takeLk, q264, hD, hpk, h]
  rw [evf, evFn_s, F383.2]
  dsimp only [F383]
  simp [-bnd, -stm, -opt, -mk, evSs_nil, evSs_cons, evS_asg, evS_asgC, evS_asgAt, evS_asgT, evS_expr, evS_ret, evS_ite, evS_raise, evS_try, evE_const, evE_var, evE_not, evE_and, evE_or, evE_ite, evE_bin, evE_cmp, evE_cmp2, evE_call, evE_meth, evE_at, evE_data, evE_sub, evE_slice, evE_tup, evE_list, evE_comp, evT_s, evAll_nil, evAll_cons, evEs_nil, evEs_cons, evO_none, evO_some, evCall_b, evCall_t, evCall_r, evHs, cmpA, binA, bnd_ok, bnd_exc, stm_ok, stm_exc, optv, AV.free, AV.frees, wireC, kindT, eq_int, eq_str, eq_bytes, ti_tup, eq_loc, mb_join, mb_split, mb_lower, mb_upper, mb_pop, mb_indexL, mb_indexV, mb_append, cb_lenS, cb_lenB, cb_lenL, cb_ord, cb_chr, cb_bytesB, cb_bytesL, cb_barr, cb_intS, cb_intI, getL, getL0, setL, setL0, takeL, takeS, takeLk, q]
theorem ast_quoted (t rest : List UInt8) (hl : t.length ≤ 50) (hrest : rest.length ≤ 50) (hq : t.all quoC = true) : AstOk P (32 :: 34 :: (t ++ 34 :: rest)) t (t.length + 3) := by
  have hD : (32 :: 34 :: (t ++ 34 :: rest) : List UInt8).length ≤ 100000 := by simp; omega
  have hpk : pk (32 :: 34 :: (t ++ 34 :: rest)) 1 = 34 := rfl
  refine ast_of P hD (.inl hpk) fun n d s => ?_
  have q := fun n d s => q355 P n d s t rest hl hrest hq
  generalize (32 :: 34 :: (t ++ 34 :: rest) : List UInt8) = D at hD hpk q ⊢
  rw [evf, evFn_s, F369.2]
  dsimp only [F369]
  simp [-bnd, -stm, -opt, -mk, evSs_nil, evSs_cons, evS_asg, evS_asgC, evS_asgAt, evS_asgT, evS_expr, evS_ret, evS_ite, evS_raise, evS_try, evE_const, evE_var, evE_not, evE_and, evE_or, evE_ite, evE_bin, evE_cmp, evE_cmp2, evE_call, evE_meth, evE_at, evE_data, evE_sub, evE_slice, evE_tup, evE_list, evE_comp, evT_s, evAll_nil, evAll_cons, evEs_nil, evEs_cons, evO_none, evO_some, evCall_b, evCall_t, evCall_r, evHs, cmpA, binA, bnd_ok, bnd_exc, stm_ok, stm_exc, optv, AV.free, AV.frees, wireC, kindT, eq_int, eq_str, eq_bytes, ti_tup, eq_loc, mb_join, mb_split, mb_lower, mb_upper, mb_pop, mb_indexL, mb_indexV, mb_append, cb_lenS, cb_lenB, cb_lenL, cb_ord, cb_chr, cb_bytesB, cb_bytesL, cb_barr, cb_intS, cb_intI, getL, getL0, setL, setL0, takeL, takeS, takeLk, q264, hD, hpk, q]
theorem ast_literal (x y : UInt8) (t rest : List UInt8) (hl : t.length ≤ 50) (hrest : rest.length ≤ 50) (hx : isFigC x = true) (hy : isFigC y = true) (hn : ((x.toNat : Int) - 48) * 10 + y.toNat - 48 = t.length) :
    AstOk P (32 :: 123 :: x :: y :: 43 :: 125 :: 13 :: 10 :: (t ++ rest)) t (8 + t.length) := by
  have hD : (32 :: 123 :: x :: y :: 43 :: 125 :: 13 :: 10 :: (t ++ rest) : List UInt8).length ≤ 100000 := by simp; omega
  have hpk : pk (32 :: 123 :: x :: y :: 43 :: 125 :: 13 :: 10 :: (t ++ rest)) 1 = 123 := rfl
  refine ast_of P hD (.inr hpk) fun n d s => ?_
  have q := fun n d s => q362 P n d s x y t rest hl hrest hx hy hn
  generalize (32 :: 123 :: x :: y :: 43 :: 125 :: 13 :: 10 :: (t ++ rest) : List UInt8) = D at hD hpk q ⊢
  rw [evf, evFn_s, F369.2]
  dsimp only [F369]
  simp [-bnd, -stm, -opt, -mk, evSs_nil, evSs_cons, evS_asg, evS_asgC, evS_asgAt, evS_asgT, evS_expr, evS_ret, evS_ite, evS_raise, evS_try, evE_const, evE_var, evE_not, evE_and, evE_or, evE_ite, evE_bin, evE_cmp, evE_cmp2, evE_call, evE_meth, evE_at, evE_data, evE_sub, evE_slice, evE_tup, evE_list, evE_comp, evT_s, evAll_nil, evAll_cons, evEs_nil, evEs_cons, evO_none, evO_some, evCall_b, evCall_t, evCall_r, evHs, cmpA, binA, bnd_ok, bnd_exc, stm_ok, stm_exc, optv, AV.free, AV.frees, wireC, kindT, eq_int, eq_str, eq_bytes, ti_tup, eq_loc, mb_join, mb_split, mb_lower, mb_upper, mb_pop, mb_indexL, mb_indexV, mb_append, cb_lenS, cb_lenB, cb_lenL, cb_ord, cb_chr, cb_bytesB, cb_bytesL, cb_barr, cb_intS, cb_intI, getL, getL0, setL, setL0, takeL, takeS, takeLk, q264, hD, hpk, q]
theorem ast_bare (t rest : List UInt8) (hl : t.length ≤ 50) (hrest : rest.length ≤ 50) (hq : t.all isAstC = true) (ht : t ≠ []) : AstOk P (32 :: (t ++ 32 :: rest)) t (t.length + 1) := fun n d s => by
  have hD : (32 :: (t ++ 32 :: rest) : List UInt8).length ≤ 100000 := by simp; omega
  have hrun := fun n d s => q299 P n d s 214 isAstC (fun n d σ c => q214 P n d σ c) (by decide) (32 :: (t ++ 32 :: rest)) 1 t.length (by decide) hD hl (fun j hj => by
    have e : t[j]? = some t[j] := List.getElem?_eq_getElem hj
    refine ⟨t[j], ?_, (List.all_eq_true.mp hq) _ (List.getElem_mem hj)⟩
    rw [show (1 : Int).toNat + j = j + 1 by rw [show (1 : Int).toNat = 1 from rfl]; omega, List.getElem?_cons_succ, List.getElem?_append_left hj, e]) (.inr ⟨32, by
      rw [show (1 : Int).toNat + t.length = t.length + 1 by rw [show (1 : Int).toNat = 1 from rfl]; omega, List.getElem?_cons_succ, getL0]; rfl, by decide +kernel⟩)
  have hsl : ((32 :: (t ++ 32 :: rest) : List UInt8).take ((1 : Int).toNat + t.length)).drop (1 : Int).toNat = t := by
    rw [show (1 : Int).toNat + t.length = t.length + 1 by rw [show (1 : Int).toNat = 1 from rfl]; omega]
    simp
  simp only [hsl] at hrun
  have hpk : ∃ c, pk (32 :: (t ++ 32 :: rest)) 1 = (c.toNat : Int) ∧ isAstC c = true := by
    cases t with
    | nil => exact absurd rfl ht
    | cons c t => exact ⟨c, rfl, (List.all_eq_true.mp hq) _ (.head _)⟩
  obtain ⟨c, hpk, hc⟩ := hpk
  have c1 : c ≠ 34 := by rintro rfl; exact absurd hc (by decide +kernel)
  have c2 : c ≠ 123 := by rintro rfl; exact absurd hc (by decide +kernel)
  have i1 := u8_int c1
  have i2 := u8_int c2
  rw [show (UInt8.toNat 34 : Int) = 34 from rfl] at i1
  rw [show (UInt8.toNat 123 : Int) = 123 from rfl] at i2
  generalize (32 :: (t ++ 32 :: rest) : List UInt8) = D at hD hpk hrun ⊢
  have hl' : t.length ≤ 100000 := by omega
  have hl0 : ¬ (t.length : Int) = 0 := by have := List.length_pos_iff.mpr ht; omega
  have e1 : (1 : Int) + t.length = t.length + 1 := by omega
  have q : ∀ n d s, evf P (n + 470) (d + 8) 376 [.wire s.length, .val (.ref 214)] (s ++ [.wire D 1]) = some (.ok (.bytes t), s ++ [.wire D (t.length + 1)]) := fun n d s => by
    rw [evf, evFn_s, F376.2]
    dsimp only [F376]
    simp [-bnd, -stm, -opt, -mk, evSs_nil, evSs_cons, evS_asg, evS_asgC, evS_asgAt, evS_asgT, evS_expr, evS_ret, evS_ite, evS_raise, evS_try, evE_const, evE_var, evE_not, evE_and, evE_or, evE_ite, evE_bin, evE_cmp, evE_cmp2, evE_call, evE_meth, evE_at, evE_data, evE_sub, evE_slice, evE_tup, evE_list, evE_comp, evT_s, evAll_nil, evAll_cons, evEs_nil, evEs_cons, evO_none, evO_some, evCall_b, evCall_t, evCall_r, evHs, cmpA, binA, bnd_ok, bnd_exc, stm_ok, stm_exc, optv, AV.free, AV.frees, wireC, kindT, eq_int, eq_str, eq_bytes, ti_tup, eq_loc, mb_join, mb_split, mb_lower, mb_upper, mb_pop, mb_indexL, mb_indexV, mb_append, cb_lenS, cb_lenB, cb_lenL, cb_ord, cb_chr, cb_bytesB, cb_bytesL, cb_barr, cb_intS, cb_intI, getL, getL0, setL, setL0, takeL, takeS, takeLk, q264, hD, hpk, hrun, i1, i2, hl', hl0, e1, ht]
  rw [evf, evFn_s, F383.2]
  dsimp only [F383]
  simp [-bnd, -stm, -opt, -mk, evSs_nil, evSs_cons, evS_asg, evS_asgC, evS_asgAt, evS_asgT, evS_expr, evS_ret, evS_ite, evS_raise, evS_try, evE_const, evE_var, evE_not, evE_and, evE_or, evE_ite, evE_bin, evE_cmp, evE_cmp2, evE_call, evE_meth, evE_at, evE_data, evE_sub, evE_slice, evE_tup, evE_list, evE_comp, evT_s, evAll_nil, evAll_cons, evEs_nil, evEs_cons, evO_none, evO_some, evCall_b, evCall_t, evCall_r, evHs, cmpA, binA, bnd_ok, bnd_exc, stm_ok, stm_exc, optv, AV.free, AV.frees, wireC, kindT, eq_int, eq_str, eq_bytes, ti_tup, eq_loc, mb_join, mb_split, mb_lower, mb_upper, mb_pop, mb_indexL, mb_indexV, mb_append, cb_lenS, cb_lenB, cb_lenL, cb_ord, cb_chr, cb_bytesB, cb_bytesL, cb_barr, cb_intS, cb_intI, getL, getL0, setL, setL0, takeL, takeS, takeLk, q]
end
end Mine
end

section
open PySem PySem.W PyProof.Rows
set_option maxRecDepth 100000
set_option linter.unusedSimpArgs false
set_option linter.unusedVariables false
set_option maxHeartbeats 1000000
namespace Mine
theorem asc_of {t : List UInt8} (h : ∀ c ∈ t, c.toNat ≤ 127) : ascii (t.map UInt8.toNat) = true := by
  simp only [ascii, List.all_eq_true, decide_eq_true_eq, List.mem_map]
  rintro x ⟨c, hc, rfl⟩
  have := h c hc
  omega
section
variable (P : Params) (n d : Nat) (m : Lo) (σ s τ : List TO)
theorem q165 (D t : List UInt8) (e : Int) (hD : D.length + 1 ≤ 100000) (hl : t.length ≤ 40) (ht : ∀ c ∈ t, c.toNat ≤ 127) (h : AstOk P (32 :: D) t e) : match dayR (t.map UInt8.toNat) with
    | some (y, k, b) => evf P (n + 550) (d + 10) 165 [.wire s.length] (s ++ [.wire (32 :: D) 0]) = some (.ok (.tup [.int y, .int k, .int b]), s ++ [.wire (32 :: D) e])
    | none => ∃ ext j, evf P (n + 550) (d + 10) 165 [.wire s.length] (s ++ [.wire (32 :: D) 0]) = some (.exc (s.length + (j + 1)), s ++ .wire (32 :: D) e :: ext) ∧ ext[j]? = some (.exc 83 1 .any) := by
  have h := h
  unfold AstOk at h
  have q := q158 P (n + 241) (d + 4) (s ++ [.wire (32 :: D) e]) (t.map UInt8.toNat) (asc_of ht) (by simpa using hl)
  rw [show n + 241 + 300 = n + 541 from rfl, show d + 4 + 5 = d + 9 from rfl] at q
  have ha := fun n d σ => q112 P n d σ t (by omega) ht
  cases hr : dayR (t.map UInt8.toNat) with
  | some x =>
    obtain ⟨y, k, b⟩ := x
    rw [hr] at q
    dsimp only at q ⊢
    rw [evf, evFn_s, F165.2]
    dsimp only [F165]
    simp [-bnd, -stm, -opt, -mk, evSs_nil, evSs_cons, evS_asg, evS_asgC, evS_asgAt, evS_asgT, evS_expr, evS_ret, evS_ite, evS_raise, evS_try, evE_const, evE_var, evE_not, evE_and, evE_or, evE_ite, evE_bin, evE_cmp, evE_cmp2, evE_call, evE_meth, evE_at, evE_data, evE_sub, evE_slice, evE_tup, evE_list, evE_comp, evT_s, evAll_nil, evAll_cons, evEs_nil, evEs_cons, evO_none, evO_some, evCall_b, evCall_t, evCall_r, evHs, cmpA, binA, bnd_ok, bnd_exc, stm_ok, stm_exc, optv, AV.free, AV.frees, wireC, kindT, eq_int, eq_str, eq_bytes, ti_tup, eq_loc, mb_join, mb_split, mb_lower, mb_upper, mb_pop, mb_indexL, mb_indexV, mb_append, cb_lenS, cb_lenB, cb_lenL, cb_ord, cb_chr, cb_bytesB, cb_bytesL, cb_barr, cb_intS, cb_intI, getL, getL0, setL, setL0, takeL, takeS, takeLk, q285, hD, h, ha, q]
  | none =>
    rw [hr] at q
    dsimp only at q ⊢
    obtain ⟨ext, j, q, f⟩ := q
    simp at q
    rw [show s.length + 1 + j = s.length + (j + 1) by omega] at q
    refine ⟨ext ++ [.exc 83 1 .any], ext.length, ?_, by simp⟩
    rw [evf, evFn_s, F165.2]
    dsimp only [F165]
    simp [-bnd, -stm, -opt, -mk, evSs_nil, evSs_cons, evS_asg, evS_asgC, evS_asgAt, evS_asgT, evS_expr, evS_ret, evS_ite, evS_raise, evS_try, evE_const, evE_var, evE_not, evE_and, evE_or, evE_ite, evE_bin, evE_cmp, evE_cmp2, evE_call, evE_meth, evE_at, evE_data, evE_sub, evE_slice, evE_tup, evE_list, evE_comp, evT_s, evAll_nil, evAll_cons, evEs_nil, evEs_cons, evO_none, evO_some, evCall_b, evCall_t, evCall_r, evHs, cmpA, binA, bnd_ok, bnd_exc, stm_ok, stm_exc, optv, AV.free, AV.frees, wireC, kindT, eq_int, eq_str, eq_bytes, ti_tup, eq_loc, mb_join, mb_split, mb_lower, mb_upper, mb_pop, mb_indexL, mb_indexV, mb_append, cb_lenS, cb_lenB, cb_lenL, cb_ord, cb_chr, cb_bytesB, cb_bytesL, cb_barr, cb_intS, cb_intI, getL, getL0, setL, setL0, takeL, takeS, takeLk, q285, hD, h, ha, q, f]
theorem q473 (D t : List UInt8) (e : Int) (hD : D.length + 1 ≤ 100000) (hl : t.length ≤ 40) (ht : ∀ c ∈ t, c.toNat ≤ 127) (h : AstOk P (32 :: D) t e) : evf P (n + 600) (d + 11) 473 [.bytes (32 :: D)] σ =
    some (.ok (match dayR (t.map UInt8.toNat) with
      | some (y, k, b) => .tup [.tup [.int y, .int k, .int b], .int e]
      | none => .int 1), σ) := by
  have q := q165 P (n + 41) d σ D t e hD hl ht h
  rw [show n + 41 + 550 = n + 591 from rfl] at q
  cases hr : dayR (t.map UInt8.toNat) with
  | some x =>
    obtain ⟨y, k, b⟩ := x
    rw [hr] at q
    dsimp only at q ⊢
    rw [evf, evFn_s, F473.2]
    dsimp only [F473]
    simp [-bnd, -stm, -opt, -mk, evSs_nil, evSs_cons, evS_asg, evS_asgC, evS_asgAt, evS_asgT, evS_expr, evS_ret, evS_ite, evS_raise, evS_try, evE_const, evE_var, evE_not, evE_and, evE_or, evE_ite, evE_bin, evE_cmp, evE_cmp2, evE_call, evE_meth, evE_at, evE_data, evE_sub, evE_slice, evE_tup, evE_list, evE_comp, evT_s, evAll_nil, evAll_cons, evEs_nil, evEs_cons, evO_none, evO_some, evCall_b, evCall_t, evCall_r, evHs, cmpA, binA, bnd_ok, bnd_exc, stm_ok, stm_exc, optv, AV.free, AV.frees, wireC, kindT, eq_int, eq_str, eq_bytes, ti_tup, eq_loc, mb_join, mb_split, mb_lower, mb_upper, mb_pop, mb_indexL, mb_indexV, mb_append, cb_lenS, cb_lenB, cb_lenL, cb_ord, cb_chr, cb_bytesB, cb_bytesL, cb_barr, cb_intS, cb_intI, getL, getL0, setL, setL0, takeL, takeS, takeLk, callC, q]
  | none =>
    rw [hr] at q
    dsimp only at q ⊢
    obtain ⟨ext, j, q, f⟩ := q
    rw [evf, evFn_s, F473.2]
    dsimp only [F473]
    simp [-bnd, -stm, -opt, -mk, evSs_nil, evSs_cons, evS_asg, evS_asgC, evS_asgAt, evS_asgT, evS_expr, evS_ret, evS_ite, evS_raise, evS_try, evE_const, evE_var, evE_not, evE_and, evE_or, evE_ite, evE_bin, evE_cmp, evE_cmp2, evE_call, evE_meth, evE_at, evE_data, evE_sub, evE_slice, evE_tup, evE_list, evE_comp, evT_s, evAll_nil, evAll_cons, evEs_nil, evEs_cons, evO_none, evO_some, evCall_b, evCall_t, evCall_r, evHs, cmpA, binA, bnd_ok, bnd_exc, stm_ok, stm_exc, optv, AV.free, AV.frees, wireC, kindT, eq_int, eq_str, eq_bytes, ti_tup, eq_loc, mb_join, mb_split, mb_lower, mb_upper, mb_pop, mb_indexL, mb_indexV, mb_append, cb_lenS, cb_lenB, cb_lenL, cb_ord, cb_chr, cb_bytesB, cb_bytesL, cb_barr, cb_intS, cb_intI, getL, getL0, setL, setL0, takeL, takeS, takeLk, callC, q, f]
theorem sb_tup {K : Frag} {σ : List TO} {vs : List AV} {i : Int} : subA K σ (.tup vs) (.int i) = if 0 ≤ i ∧ i < 100000 then vs[i.toNat]? else none := rfl
theorem eq_tt {K : Frag} {σ : List TO} {y k c e y' k' c' e' : Int} : eqA K σ (.tup [.tup [.int y, .int k, .int c], .int e]) (.tup [.tup [.int y', .int k', .int c'], .int e']) = some (decide (y = y' ∧ k = k' ∧ c = c' ∧ e = e')) := by
  simp [eqA, dataTop, dataT, dataTs, SeqAt.shaped, PyData.canLay0, PyData.canLayAll0, PyData.depth, PyData.depthAll, PyData.eqv, PyData.eqvAll]
  rw [Bool.eq_iff_iff]
  simp
  omega
noncomputable def fOrd : AV → AV
  | .str [c] => .int c
  | v => v
theorem bytesOf_map {t : List Nat} (h : ascii t = true) (hl : t.length ≤ 40) : bytesOfInts (t.map fun (c : Nat) => (c : Int)) = some (.bytes (t.map UInt8.ofNat)) := by
  unfold bytesOfInts
  rw [if_pos]
  · rw [List.map_map]; rfl
  · refine ⟨?_, by rw [List.length_map]; omega⟩
    rw [List.all_eq_true]
    intro x hx
    rw [List.mem_map] at hx
    obtain ⟨c, hc, rfl⟩ := hx
    have := asc_le h hc
    rw [decide_eq_true_eq]
    omega
theorem toNat_map {t : List Nat} (h : ascii t = true) : (t.map UInt8.ofNat).map UInt8.toNat = t := by
  rw [List.map_map]
  have : ∀ c ∈ t, (UInt8.toNat ∘ UInt8.ofNat) c = c := fun c hc => by
    have := asc_le h hc
    simp [UInt8.toNat_ofNat']
    omega
  rw [List.map_congr_left this, List.map_id']
theorem le_map {t : List Nat} (h : ascii t = true) : ∀ c ∈ t.map UInt8.ofNat, c.toNat ≤ 127 := fun c hc => by
  rw [List.mem_map] at hc
  obtain ⟨x, hx, rfl⟩ := hc
  have := asc_le h hx
  simp [UInt8.toNat_ofNat']
  omega
noncomputable def figHi (n : Nat) : UInt8 := UInt8.ofNat (48 + n / 10)
noncomputable def figLo (n : Nat) : UInt8 := UInt8.ofNat (48 + n % 10)
theorem fdiv10 (n : Nat) : (n : Int).fdiv 10 = ((n / 10 : Nat) : Int) := by rw [Int.fdiv_eq_ediv_of_nonneg _ (by decide)]; omega
theorem fmod10 (n : Nat) : (n : Int).fmod 10 = ((n % 10 : Nat) : Int) := by rw [Int.fmod_eq_emod_of_nonneg _ (by decide)]; omega
theorem figs_two {n : Nat} (h : n ≤ 40) : bytesOfInts [48 + (n : Int).fdiv 10, 48 + (n : Int).fmod 10] = some (.bytes [figHi n, figLo n]) := by
  rw [fdiv10, fmod10]
  unfold bytesOfInts
  rw [if_pos]
  · simp only [List.map_cons, List.map_nil, figHi, figLo]
    congr 4
  · simp; omega
theorem hi_nat {n : Nat} (h : n ≤ 40) : (figHi n).toNat = 48 + n / 10 := by simp [figHi, UInt8.toNat_ofNat']; omega
theorem lo_nat {n : Nat} (h : n ≤ 40) : (figLo n).toNat = 48 + n % 10 := by simp [figLo, UInt8.toNat_ofNat']; omega
/-- the text may be laid this way -/
noncomputable def WayOk (t : List Nat) : Nat → Bool
  | 0 => (t.map UInt8.ofNat).all isAstC && t != []
  | 1 => (t.map UInt8.ofNat).all quoC
  | _ => true
theorem q478_a (t : List Nat) (way : Nat) (h : ascii t = true) (hl : t.length ≤ 40) (hw : WayOk t way = true) (hway : way < 3) : evf P (n + 700) (d + 12) 478 [.str t, .int way] σ = some (.ok (.bool true), σ) := by
  have e1 := @toNat_map t h
  have e2 := @le_map t h
  have e3 := @bytesOf_map t h hl
  have e4 := @figs_two t.length hl
  have hd := fun n d σ => q466 P n d σ t h hl
  have lo : (t.map UInt8.ofNat).length = t.length := by simp
  have w0 : way = 0 → AstOk P (32 :: (t.map UInt8.ofNat ++ [32, 120])) (t.map UInt8.ofNat) (t.length + 1) := fun e => by
    subst e
    simp only [WayOk, Bool.and_eq_true, bne_iff_ne] at hw
    have := ast_bare P (t.map UInt8.ofNat) [120] (by omega) (by simp) hw.1 (by simpa using hw.2)
    rw [lo] at this
    exact this
  have w1 : way = 1 → AstOk P (32 :: 34 :: (t.map UInt8.ofNat ++ [34, 32, 120])) (t.map UInt8.ofNat) (t.length + 3) := fun e => by
    subst e
    have := ast_quoted P (t.map UInt8.ofNat) [32, 120] (by omega) (by simp) hw
    rw [lo] at this
    exact this
  have w2 : way = 2 → AstOk P (32 :: 123 :: figHi t.length :: figLo t.length :: 43 :: 125 :: 13 :: 10 :: (t.map UInt8.ofNat ++ [32, 120])) (t.map UInt8.ofNat) (8 + t.length) := fun e => by
    have h1 := hi_nat hl
    have h2 := lo_nat hl
    have := ast_literal P (figHi t.length) (figLo t.length) (t.map UInt8.ofNat) [32, 120] (by omega) (by simp) (by simp only [isFigC, h1, Bool.and_eq_true, decide_eq_true_eq]; omega) (by simp only [isFigC, h2, Bool.and_eq_true, decide_eq_true_eq]; omega) (by rw [h1, h2, lo]; omega)
    rw [lo] at this
    exact this
  have hh := fun D e (hD : D.length + 1 ≤ 100000) (hA : AstOk P (32 :: D) (t.map UInt8.ofNat) e) n d σ => q473 P n d σ D (t.map UInt8.ofNat) e hD (by omega) e2 hA
  rw [e1] at hh
  have h3 : t.length ≤ 100000 := by omega
  have h4 : 1 + t.length ≤ 100000 := by omega
  have h1 : AV.frees (t.map fun (c : Nat) => AV.int (c : Int)) = true := frees_map (fun _ => rfl) t
  have h2 : intsOf (t.map fun (c : Nat) => AV.int (c : Int)) = some (t.map fun (c : Nat) => (c : Int)) := intsOf_map t
  rw [evf, evFn_s, F478.2]
  dsimp only [F478]
  simp [-bnd, -stm, -opt, -mk, evSs_nil, evSs_cons, evS_asg, evS_asgC, evS_asgAt, evS_asgT, evS_expr, evS_ret, evS_ite, evS_raise, evS_try, evE_const, evE_var, evE_not, evE_and, evE_or, evE_ite, evE_bin, evE_cmp, evE_cmp2, evE_call, evE_meth, evE_at, evE_data, evE_sub, evE_slice, evE_tup, evE_list, evE_comp, evT_s, evAll_nil, evAll_cons, evEs_nil, evEs_cons, evO_none, evO_some, evCall_b, evCall_t, evCall_r, evHs, cmpA, binA, bnd_ok, bnd_exc, stm_ok, stm_exc, optv, AV.free, AV.frees, wireC, kindT, eq_int, eq_str, eq_bytes, ti_tup, eq_loc, mb_join, mb_split, mb_lower, mb_upper, mb_pop, mb_indexL, mb_indexV, mb_append, cb_lenS, cb_lenB, cb_lenL, cb_ord, cb_chr, cb_bytesB, cb_bytesL, cb_barr, cb_intS, cb_intI, getL, getL0, setL, setL0, takeL, takeS, takeLk, iterA, h]
  rw [comp_map (f := fOrd) (c := 50)]
  · generalize t.map UInt8.ofNat = b at *
    have big : ∀ k, 40 ≤ k → t.length ≤ k := fun k hk => by omega
    have big2 : ∀ j k, 40 + j ≤ k → j + t.length ≤ k := fun j k hk => by omega
    have h5 : 1 + (t.length + 1 + 1) ≤ 100000 := by omega
    have h7 : 1 + (t.length + 1 + 1 + 1 + 1 + 1 + 1 + 1) ≤ 100000 := by omega
    match way, hway with
    | 0, _ =>
      have q := hh _ _ (by simp; omega) (w0 rfl)
      cases hr : dayR t with
      | none =>
        simp only [hr] at hd q
        simp [-bnd, -stm, -opt, -mk, evSs_nil, evSs_cons, evS_asg, evS_asgC, evS_asgAt, evS_asgT, evS_expr, evS_ret, evS_ite, evS_raise, evS_try, evE_const, evE_var, evE_not, evE_and, evE_or, evE_ite, evE_bin, evE_cmp, evE_cmp2, evE_call, evE_meth, evE_at, evE_data, evE_sub, evE_slice, evE_tup, evE_list, evE_comp, evT_s, evAll_nil, evAll_cons, evEs_nil, evEs_cons, evO_none, evO_some, evCall_b, evCall_t, evCall_r, evHs, cmpA, binA, bnd_ok, bnd_exc, stm_ok, stm_exc, optv, AV.free, AV.frees, wireC, kindT, eq_int, eq_str, eq_bytes, ti_tup, eq_loc, mb_join, mb_split, mb_lower, mb_upper, mb_pop, mb_indexL, mb_indexV, mb_append, cb_lenS, cb_lenB, cb_lenL, cb_ord, cb_chr, cb_bytesB, cb_bytesL, cb_barr, cb_intS, cb_intI, getL, getL0, setL, setL0, takeL, takeS, takeLk, Function.comp_def, fOrd, h1, h2, h5, h7, big, big2, e3, lo, e4, mk, hd, q, putAll, List.append_assoc, sb_tup, intsOf]
      | some x =>
        obtain ⟨y, k, c⟩ := x
        simp only [hr] at hd q
        simp [-bnd, -stm, -opt, -mk, evSs_nil, evSs_cons, evS_asg, evS_asgC, evS_asgAt, evS_asgT, evS_expr, evS_ret, evS_ite, evS_raise, evS_try, evE_const, evE_var, evE_not, evE_and, evE_or, evE_ite, evE_bin, evE_cmp, evE_cmp2, evE_call, evE_meth, evE_at, evE_data, evE_sub, evE_slice, evE_tup, evE_list, evE_comp, evT_s, evAll_nil, evAll_cons, evEs_nil, evEs_cons, evO_none, evO_some, evCall_b, evCall_t, evCall_r, evHs, cmpA, binA, bnd_ok, bnd_exc, stm_ok, stm_exc, optv, AV.free, AV.frees, wireC, kindT, eq_int, eq_str, eq_bytes, ti_tup, eq_loc, mb_join, mb_split, mb_lower, mb_upper, mb_pop, mb_indexL, mb_indexV, mb_append, cb_lenS, cb_lenB, cb_lenL, cb_ord, cb_chr, cb_bytesB, cb_bytesL, cb_barr, cb_intS, cb_intI, getL, getL0, setL, setL0, takeL, takeS, takeLk, Function.comp_def, fOrd, h1, h2, h5, h7, big, big2, e3, lo, e4, mk, hd, q, putAll, List.append_assoc, sb_tup, intsOf, eq_tt]
        omega
    | 1, _ =>
      have q := hh _ _ (by simp; omega) (w1 rfl)
      cases hr : dayR t with
      | none =>
        simp only [hr] at hd q
        simp [-bnd, -stm, -opt, -mk, evSs_nil, evSs_cons, evS_asg, evS_asgC, evS_asgAt, evS_asgT, evS_expr, evS_ret, evS_ite, evS_raise, evS_try, evE_const, evE_var, evE_not, evE_and, evE_or, evE_ite, evE_bin, evE_cmp, evE_cmp2, evE_call, evE_meth, evE_at, evE_data, evE_sub, evE_slice, evE_tup, evE_list, evE_comp, evT_s, evAll_nil, evAll_cons, evEs_nil, evEs_cons, evO_none, evO_some, evCall_b, evCall_t, evCall_r, evHs, cmpA, binA, bnd_ok, bnd_exc, stm_ok, stm_exc, optv, AV.free, AV.frees, wireC, kindT, eq_int, eq_str, eq_bytes, ti_tup, eq_loc, mb_join, mb_split, mb_lower, mb_upper, mb_pop, mb_indexL, mb_indexV, mb_append, cb_lenS, cb_lenB, cb_lenL, cb_ord, cb_chr, cb_bytesB, cb_bytesL, cb_barr, cb_intS, cb_intI, getL, getL0, setL, setL0, takeL, takeS, takeLk, Function.comp_def, fOrd, h1, h2, h5, h7, big, big2, e3, lo, e4, mk, hd, q, putAll, List.append_assoc, sb_tup, intsOf]
      | some x =>
        obtain ⟨y, k, c⟩ := x
        simp only [hr] at hd q
        simp [-bnd, -stm, -opt, -mk, evSs_nil, evSs_cons, evS_asg, evS_asgC, evS_asgAt, evS_asgT, evS_expr, evS_ret, evS_ite, evS_raise, evS_try, evE_const, evE_var, evE_not, evE_and, evE_or, evE_ite, evE_bin, evE_cmp, evE_cmp2, evE_call, evE_meth, evE_at, evE_data, evE_sub, evE_slice, evE_tup, evE_list, evE_comp, evT_s, evAll_nil, evAll_cons, evEs_nil, evEs_cons, evO_none, evO_some, evCall_b, evCall_t, evCall_r, evHs, cmpA, binA, bnd_ok, bnd_exc, stm_ok, stm_exc, optv, AV.free, AV.frees, wireC, kindT, eq_int, eq_str, eq_bytes, ti_tup, eq_loc, mb_join, mb_split, mb_lower, mb_upper, mb_pop, mb_indexL, mb_indexV, mb_append, cb_lenS, cb_lenB, cb_lenL, cb_ord, cb_chr, cb_bytesB, cb_bytesL, cb_barr, cb_intS, cb_intI, getL, getL0, setL, setL0, takeL, takeS, takeLk, Function.comp_def, fOrd, h1, h2, h5, h7, big, big2, e3, lo, e4, mk, hd, q, putAll, List.append_assoc, sb_tup, intsOf, eq_tt]
        omega
    | 2, _ =>
      have q := hh _ _ (by simp; omega) (w2 rfl)
      cases hr : dayR t with
      | none =>
        simp only [hr] at hd q
        simp [-bnd, -stm, -opt, -mk, evSs_nil, evSs_cons, evS_asg, evS_asgC, evS_asgAt, evS_asgT, evS_expr, evS_ret, evS_ite, evS_raise, evS_try, evE_const, evE_var, evE_not, evE_and, evE_or, evE_ite, evE_bin, evE_cmp, evE_cmp2, evE_call, evE_meth, evE_at, evE_data, evE_sub, evE_slice, evE_tup, evE_list, evE_comp, evT_s, evAll_nil, evAll_cons, evEs_nil, evEs_cons, evO_none, evO_some, evCall_b, evCall_t, evCall_r, evHs, cmpA, binA, bnd_ok, bnd_exc, stm_ok, stm_exc, optv, AV.free, AV.frees, wireC, kindT, eq_int, eq_str, eq_bytes, ti_tup, eq_loc, mb_join, mb_split, mb_lower, mb_upper, mb_pop, mb_indexL, mb_indexV, mb_append, cb_lenS, cb_lenB, cb_lenL, cb_ord, cb_chr, cb_bytesB, cb_bytesL, cb_barr, cb_intS, cb_intI, getL, getL0, setL, setL0, takeL, takeS, takeLk, Function.comp_def, fOrd, h1, h2, h5, h7, big, big2, e3, lo, e4, mk, hd, q, putAll, List.append_assoc, sb_tup, intsOf]
      | some x =>
        obtain ⟨y, k, c⟩ := x
        simp only [hr] at hd q
        simp [-bnd, -stm, -opt, -mk, evSs_nil, evSs_cons, evS_asg, evS_asgC, evS_asgAt, evS_asgT, evS_expr, evS_ret, evS_ite, evS_raise, evS_try, evE_const, evE_var, evE_not, evE_and, evE_or, evE_ite, evE_bin, evE_cmp, evE_cmp2, evE_call, evE_meth, evE_at, evE_data, evE_sub, evE_slice, evE_tup, evE_list, evE_comp, evT_s, evAll_nil, evAll_cons, evEs_nil, evEs_cons, evO_none, evO_some, evCall_b, evCall_t, evCall_r, evHs, cmpA, binA, bnd_ok, bnd_exc, stm_ok, stm_exc, optv, AV.free, AV.frees, wireC, kindT, eq_int, eq_str, eq_bytes, ti_tup, eq_loc, mb_join, mb_split, mb_lower, mb_upper, mb_pop, mb_indexL, mb_indexV, mb_append, cb_lenS, cb_lenB, cb_lenL, cb_ord, cb_chr, cb_bytesB, cb_bytesL, cb_barr, cb_intS, cb_intI, getL, getL0, setL, setL0, takeL, takeS, takeLk, Function.comp_def, fOrd, h1, h2, h5, h7, big, big2, e3, lo, e4, mk, hd, q, putAll, List.append_assoc, sb_tup, intsOf, eq_tt]
        omega
  · intro v hv k hk
    simp only [List.mem_map] at hv
    obtain ⟨c, hc, rfl⟩ := hv
    obtain ⟨k, rfl⟩ : ∃ j, k = j + 50 := ⟨k - 50, by omega⟩
    simp [-bnd, -stm, -opt, -mk, evSs_nil, evSs_cons, evS_asg, evS_asgC, evS_asgAt, evS_asgT, evS_expr, evS_ret, evS_ite, evS_raise, evS_try, evE_const, evE_var, evE_not, evE_and, evE_or, evE_ite, evE_bin, evE_cmp, evE_cmp2, evE_call, evE_meth, evE_at, evE_data, evE_sub, evE_slice, evE_tup, evE_list, evE_comp, evT_s, evAll_nil, evAll_cons, evEs_nil, evEs_cons, evO_none, evO_some, evCall_b, evCall_t, evCall_r, evHs, cmpA, binA, bnd_ok, bnd_exc, stm_ok, stm_exc, optv, AV.free, AV.frees, wireC, kindT, eq_int, eq_str, eq_bytes, ti_tup, eq_loc, mb_join, mb_split, mb_lower, mb_upper, mb_pop, mb_indexL, mb_indexV, mb_append, cb_lenS, cb_lenB, cb_lenL, cb_ord, cb_chr, cb_bytesB, cb_bytesL, cb_barr, cb_intS, cb_intI, getL, getL0, setL, setL0, takeL, takeS, takeLk, fOrd]
  · simp; omega
end
end Mine
end

section
open PySem PySem.W PyProof.Rows
set_option maxRecDepth 100000
set_option linter.unusedSimpArgs false
set_option linter.unusedVariables false
set_option maxHeartbeats 1000000
namespace Mine
section
variable {K : Frag} {FT : Addr → Option Fn} {d : Nat}
theorem for_inv {ks : List Nat} {b : List IS} {C : Nat} (I : Lo → List TO → Prop) : ∀ (vs : List AV), (∀ v ∈ vs, ∀ m σ, I m σ → ∀ N, C ≤ N → ∃ m' m'' σ'', putT K ks v m = some m' ∧ evSs K FT N d b m' σ = some (.nxt, m'', σ'') ∧ I m'' σ'') →
    ∀ {N m σ}, vs.length + C + 1 ≤ N → I m σ → ∃ m' σ', evFor K FT N d ks vs b m σ = some (.nxt, m', σ') ∧ I m' σ'
  | [], _, N, m, σ, hN, hI => by
    obtain ⟨N, rfl⟩ : ∃ k, N = k + 1 := ⟨N - 1, by omega⟩
    exact ⟨m, σ, by rw [evFor_nil], hI⟩
  | v :: vs, h0, N, m, σ, hN, hI => by
    simp only [List.length_cons] at hN
    obtain ⟨N, rfl⟩ : ∃ k, N = k + 1 := ⟨N - 1, by omega⟩
    obtain ⟨m', m'', σ'', h1, h2, h3⟩ := h0 v (.head _) m σ hI N (by omega)
    obtain ⟨m3, σ3, e, h4⟩ := for_inv I vs (fun v hv => h0 v (.tail _ hv)) (N := N) (by omega) h3
    refine ⟨m3, σ3, ?_, h4⟩
    rw [evFor_cons, h1]
    dsimp only
    rw [h2]
    exact e
end
noncomputable def pickV (xs : List Int) (many : Int) : Int := match xs with
  | [] => many - 1
  | x :: _ => x.fmod many
theorem pickV_in (xs : List Int) {many : Int} (h : 0 < many) : 0 ≤ pickV xs many ∧ pickV xs many < many := by
  cases xs with
  | nil => exact ⟨by simp only [pickV]; omega, by simp only [pickV]; omega⟩
  | cons x xs => exact ⟨Int.fmod_nonneg_of_pos _ h, Int.fmod_lt_of_pos _ h⟩
theorem plain_ints (xs : List Int) : (xs.map AV.int).all plainA = true := by simp [plainA]
/-- signs of days -/
noncomputable def gN (c : Nat) : Bool := (decide (48 ≤ c) && decide (c ≤ 57)) || (decide (65 ≤ c) && decide (c ≤ 90)) || (decide (97 ≤ c) && decide (c ≤ 122)) || decide (c = 43) || decide (c = 45)
theorem gN_ok : ∀ c, c < 128 → gN c = true → isAstC (UInt8.ofNat c) = true ∧ quoC (UInt8.ofNat c) = true := by decide +kernel
theorem gN_lt {c : Nat} (h : gN c = true) : c < 128 := by simp [gN] at h; omega
theorem good_asc {t : List Nat} (h : t.all gN = true) : ascii t = true := by
  rw [List.all_eq_true] at h
  simp only [ascii, List.all_eq_true, decide_eq_true_eq]
  exact fun x hx => gN_lt (h x hx)
theorem good_way {t : List Nat} (h : t.all gN = true) (hn : t ≠ []) : ∀ w, WayOk t w = true
  | 0 => by
    rw [List.all_eq_true] at h
    simp only [WayOk, Bool.and_eq_true, bne_iff_ne, List.all_eq_true, List.mem_map]
    refine ⟨?_, hn⟩
    rintro c ⟨x, hx, rfl⟩
    exact (gN_ok x (gN_lt (h x hx)) (h x hx)).1
  | 1 => by
    rw [List.all_eq_true] at h
    simp only [WayOk, List.all_eq_true, List.mem_map]
    rintro c ⟨x, hx, rfl⟩
    exact (gN_ok x (gN_lt (h x hx)) (h x hx)).2
  | _ + 2 => rfl
section
variable (P : Params) (n d : Nat) (m : Lo) (σ s τ : List TO)
theorem q454 (xs : List Int) (hl : xs.length ≤ 40) (many : Int) (hm : 0 < many) : evf P (n + 60) (d + 1) 454 [.loc 0, .int many] [.list (xs.map .int)] = some (.ok (.int (pickV xs many)), [.list (xs.tail.map .int)]) := by
  have h0 : ¬ many = 0 := by omega
  rw [evf, evFn_s, F454.2]
  dsimp only [F454]
  cases xs with
  | nil => simp [-bnd, -stm, -opt, -mk, evSs_nil, evSs_cons, evS_asg, evS_asgC, evS_asgAt, evS_asgT, evS_expr, evS_ret, evS_ite, evS_raise, evS_try, evE_const, evE_var, evE_not, evE_and, evE_or, evE_ite, evE_bin, evE_cmp, evE_cmp2, evE_call, evE_meth, evE_at, evE_data, evE_sub, evE_slice, evE_tup, evE_list, evE_comp, evT_s, evAll_nil, evAll_cons, evEs_nil, evEs_cons, evO_none, evO_some, evCall_b, evCall_t, evCall_r, evHs, cmpA, binA, bnd_ok, bnd_exc, stm_ok, stm_exc, optv, AV.free, AV.frees, wireC, kindT, eq_int, eq_str, eq_bytes, ti_tup, eq_loc, mb_join, mb_split, mb_lower, mb_upper, mb_pop, mb_indexL, mb_indexV, mb_append, cb_lenS, cb_lenB, cb_lenL, cb_ord, cb_chr, cb_bytesB, cb_bytesL, cb_barr, cb_intS, cb_intI, getL, getL0, setL, setL0, takeL, takeS, takeLk, mk, pickV]
  | cons x xs =>
    have hp := plain_ints (x :: xs)
    have hl' : xs.length ≤ 100000 := by simp at hl; omega
    simp [-bnd, -stm, -opt, -mk, evSs_nil, evSs_cons, evS_asg, evS_asgC, evS_asgAt, evS_asgT, evS_expr, evS_ret, evS_ite, evS_raise, evS_try, evE_const, evE_var, evE_not, evE_and, evE_or, evE_ite, evE_bin, evE_cmp, evE_cmp2, evE_call, evE_meth, evE_at, evE_data, evE_sub, evE_slice, evE_tup, evE_list, evE_comp, evT_s, evAll_nil, evAll_cons, evEs_nil, evEs_cons, evO_none, evO_some, evCall_b, evCall_t, evCall_r, evHs, cmpA, binA, bnd_ok, bnd_exc, stm_ok, stm_exc, optv, AV.free, AV.frees, wireC, kindT, eq_int, eq_str, eq_bytes, ti_tup, eq_loc, mb_join, mb_split, mb_lower, mb_upper, mb_pop, mb_indexL, mb_indexV, mb_append, cb_lenS, cb_lenB, cb_lenL, cb_ord, cb_chr, cb_bytesB, cb_bytesL, cb_barr, cb_intS, cb_intI, getL, getL0, setL, setL0, takeL, takeS, takeLk, mk, pickV, plainA, hl', h0]
theorem q478_g (t : List Nat) (way : Int) (h : t.all gN = true) (hn : t ≠ []) (hl : t.length ≤ 40) (h0 : 0 ≤ way) (h3 : way < 3) : evf P (n + 700) (d + 12) 478 [.str t, .int way] σ = some (.ok (.bool true), σ) := by
  have := q478_a P n d σ t way.toNat (good_asc h) hl (good_way h hn _) (by omega)
  rw [show ((way.toNat : Nat) : Int) = way by omega] at this
  exact this
theorem q478_1 (t : List Nat) (h : ascii t = true) (hl : t.length ≤ 40) (hw : WayOk t 1 = true) : evf P (n + 700) (d + 12) 478 [.str t, .int 1] σ = some (.ok (.bool true), σ) := q478_a P n d σ t 1 h hl hw (by decide)
theorem q478_2 (t : List Nat) (h : ascii t = true) (hl : t.length ≤ 40) : evf P (n + 700) (d + 12) 478 [.str t, .int 2] σ = some (.ok (.bool true), σ) := q478_a P n d σ t 2 h hl rfl (by decide)
end
end Mine
end

section
open PySem PySem.W PyProof.Rows
set_option maxRecDepth 100000
set_option linter.unusedSimpArgs false
set_option linter.unusedVariables false
set_option maxHeartbeats 1000000
namespace Mine
/-- the body of the k-th for loop -/
noncomputable def nthFor : List IS → Nat → List IS
  | .forr _ _ b :: _, 0 => b
  | .forRange _ _ b :: _, 0 => b
  | .forr _ _ _ :: r, n + 1 => nthFor r n
  | .forRange _ _ _ :: r, n + 1 => nthFor r n
  | _ :: r, n => nthFor r n
  | [], _ => []
noncomputable def dueAV (t : List Nat) : AV := match dayR t with
  | some (y, k, b) => .tup [.int y, .int k, .int b]
  | none => .none
noncomputable def rowOk (K : Frag) (v : AV) : Bool := match tupItems K v with
  | some [.str t, due] => ascii t && decide (t.length ≤ 40) && WayOk t 1 && (match eqA K [] (dueAV t) due with
    | some true => true
    | _ => false)
  | _ => false
noncomputable def tabOk (K : Frag) : Bool := match tupItems K (.val (.ref 447)) with
  | some l => l.all (rowOk K) && decide (l.length ≤ 20)
  | none => false
noncomputable def goodA : AV → Bool
  | .str s => s.all gN && decide (s.length ≤ 5) && s != []
  | _ => false
noncomputable def yearOk (K : Frag) : Bool := match tupItems K (.val (.ref 426)) with
  | some l => l.all (fun v => match v with
    | .str s => s.all gN && decide (s.length ≤ 5)
    | _ => false) && decide (l.length = 14)
  | none => false
section
variable (P : Params) (n d : Nat) (m : Lo) (σ s τ : List TO)
theorem tab_ok : tabOk (KP P) = true := by kernel_rfl
theorem year_ok : yearOk (KP P) = true := by kernel_rfl
theorem eq_due {K : Frag} {t : List Nat} {v : AV} : eqA K σ (dueAV t) v = eqA K [] (dueAV t) v := by
  unfold dueAV
  cases dayR t with
  | none => cases v <;> rfl
  | some x => obtain ⟨y, k, b⟩ := x; cases v <;> rfl
/-- the law's names while the table is walked -/
noncomputable def tabI (cells : List AV) (xs : List Int) (m : Lo) (σ : List TO) : Prop := ∃ a b, m = [some (.fl cells), some (.loc 0), a, b, none, none, none, none, none, none, none, none, none, none, none] ∧ σ = [.list (xs.map .int)]
theorem tab_turn (cells : List AV) (xs : List Int) (v : AV) (hv : rowOk (KP P) v = true) (m : Lo) (σ : List TO) (h : tabI cells xs m σ) (N : Nat) (hN : 900 ≤ N) :
    ∃ m' m'' σ'', putT (KP P) [2, 3] v m = some m' ∧ evSs (KP P) (cF (KP P)) N (d + 12) (nthFor F483.1.body 0) m' σ = some (.nxt, m'', σ'') ∧ tabI cells xs m'' σ'' := by
  obtain ⟨N, rfl⟩ : ∃ k, N = k + 900 := ⟨N - 900, by omega⟩
  obtain ⟨a, b, rfl, rfl⟩ := h
  unfold rowOk at hv
  split at hv
  · rename_i t due ht
    simp only [Bool.and_eq_true, decide_eq_true_eq] at hv
    obtain ⟨⟨⟨h1, h2⟩, h3⟩, h4⟩ := hv
    have h5 : ∀ σ, eqA (KP P) σ (dueAV t) due = some true := fun σ => by
      rw [eq_due]
      split at h4
      · rename_i e; exact e
      · cases h4
    have q : ∀ n d σ, evf P (n + 300) (d + 4) 466 [.str t] σ = some (.ok (dueAV t), σ) := fun n d σ => q466 P n d σ t h1 h2
    have q1 := fun n d σ => q478_1 P n d σ t h1 h2 h3
    have q2 := fun n d σ => q478_2 P n d σ t h1 h2
    refine ⟨[some (.fl cells), some (.loc 0), some (.str t), some due, none, none, none, none, none, none, none, none, none, none, none], [some (.fl cells), some (.loc 0), some (.str t), some due, none, none, none, none, none, none, none, none, none, none, none], [.list (xs.map .int)], ?_, ?_, _, _, rfl, rfl⟩
    · unfold putT
      rw [ht]
      rfl
    · simp only [nthFor, F483]
      simp [-bnd, -stm, -opt, -mk, evSs_nil, evSs_cons, evS_asg, evS_asgC, evS_asgAt, evS_asgT, evS_expr, evS_ret, evS_ite, evS_raise, evS_try, evE_const, evE_var, evE_not, evE_and, evE_or, evE_ite, evE_bin, evE_cmp, evE_cmp2, evE_call, evE_meth, evE_at, evE_data, evE_sub, evE_slice, evE_tup, evE_list, evE_comp, evT_s, evAll_nil, evAll_cons, evEs_nil, evEs_cons, evO_none, evO_some, evCall_b, evCall_t, evCall_r, evHs, cmpA, binA, bnd_ok, bnd_exc, stm_ok, stm_exc, optv, AV.free, AV.frees, wireC, kindT, eq_int, eq_str, eq_bytes, ti_tup, eq_loc, mb_join, mb_split, mb_lower, mb_upper, mb_pop, mb_indexL, mb_indexV, mb_append, cb_lenS, cb_lenB, cb_lenL, cb_ord, cb_chr, cb_bytesB, cb_bytesL, cb_barr, cb_intS, cb_intI, getL, getL0, setL, setL0, takeL, takeS, takeLk, q, q1, q2, h5]
  · cases hv
end
end Mine
end

section
open PySem PySem.W PyProof.Rows
set_option maxRecDepth 100000
set_option linter.unusedSimpArgs false
set_option linter.unusedVariables false
set_option maxHeartbeats 1000000
namespace Mine
theorem pickL {L : List AV} (h : L.all goodA = true) {k : Int} (h0 : 0 ≤ k) (h1 : k < L.length) : ∃ s, L[k.toNat]? = some (.str s) ∧ s.all gN = true ∧ s.length ≤ 5 ∧ s ≠ [] := by
  have hk : k.toNat < L.length := by omega
  have := (List.all_eq_true.mp h) _ (List.getElem_mem hk)
  cases e : L[k.toNat] with
  | str s =>
    rw [e] at this
    simp only [goodA, Bool.and_eq_true, decide_eq_true_eq, bne_iff_ne] at this
    exact ⟨s, by rw [List.getElem?_eq_getElem hk, e], this.1.1, this.1.2, this.2⟩
  | _ => rw [e] at this; cases this
noncomputable def days : List (List Nat) := [[50, 56], [50, 57], [51, 48], [51, 49], [49], [48, 57], [48], [51, 50], [48, 48, 55], [120]]
noncomputable def monOk (s : List Nat) : Bool := match s with
  | [x, y, z] => ascii s && [AV.str [x, y, z], .str [upperN x, upperN y, upperN z], .str [upperN x, y, z], .str [x, y, z, 115]].all goodA
  | _ => false
theorem mon_ok : monL.all monOk = true := by decide +kernel
theorem days_ok : (days.map AV.str).all goodA = true := by decide +kernel
section
variable (P : Params) (n d : Nat) (m : Lo) (σ s τ : List TO)
theorem sb_val {K : Frag} {v : Value} {i : Int} : subA K σ (.val v) (.int i) = (tupItems K (.val v)).bind fun vs => if 0 ≤ i ∧ i < 100000 then vs[i.toNat]? else none := rfl
/-- the law's names while the turns go -/
noncomputable def turI (cells : List AV) (m : Lo) (σ : List TO) : Prop := ∃ a b c e f xs, m = [some (.fl cells), some (.loc 0), a, b, c, e, f, none, none, none, none, none, none, none, none] ∧ σ = [.list (List.map AV.int xs)] ∧ xs.length ≤ 40
theorem turn (cells : List AV) (v : AV) (m : Lo) (σ : List TO) (h : turI cells m σ) (N : Nat) (hN : 900 ≤ N) :
    ∃ m' m'' σ'', putT (KP P) [4] v m = some m' ∧ evSs (KP P) (cF (KP P)) N (d + 12) (nthFor F483.1.body 1) m' σ = some (.nxt, m'', σ'') ∧ turI cells m'' σ'' := by
  obtain ⟨N, rfl⟩ : ∃ k, N = k + 900 := ⟨N - 900, by omega⟩
  obtain ⟨a, b, c, e, f, xs, rfl, rfl, hl⟩ := h
  obtain ⟨x1, hx1, l1⟩ : ∃ y, xs.tail = y ∧ y.length ≤ 40 := ⟨_, rfl, by rw [List.length_tail]; omega⟩
  obtain ⟨x2, hx2, l2⟩ : ∃ y, x1.tail = y ∧ y.length ≤ 40 := ⟨_, rfl, by rw [List.length_tail]; omega⟩
  obtain ⟨x3, hx3, l3⟩ : ∃ y, x2.tail = y ∧ y.length ≤ 40 := ⟨_, rfl, by rw [List.length_tail]; omega⟩
  obtain ⟨x4, hx4, l4⟩ : ∃ y, x3.tail = y ∧ y.length ≤ 40 := ⟨_, rfl, by rw [List.length_tail]; omega⟩
  obtain ⟨x5, hx5, l5⟩ : ∃ y, x4.tail = y ∧ y.length ≤ 40 := ⟨_, rfl, by rw [List.length_tail]; omega⟩
  have k1 := pickV_in xs (many := 12) (by decide)
  have k2 := pickV_in x1 (many := 4) (by decide)
  have k3 := pickV_in x2 (many := 10) (by decide)
  have k4 := pickV_in x3 (many := 14) (by decide)
  have k5 := pickV_in x4 (many := 3) (by decide)
  have p1 := fun n d => q454 P n d xs hl 12 (by decide)
  have p2 := fun n d => q454 P n d x1 l1 4 (by decide)
  have p3 := fun n d => q454 P n d x2 l2 10 (by decide)
  have p4 := fun n d => q454 P n d x3 l3 14 (by decide)
  have p5 := fun n d => q454 P n d x4 l4 3 (by decide)
  rw [hx1] at p1
  rw [hx2] at p2
  rw [hx3] at p3
  rw [hx4] at p4
  rw [hx5] at p5
  have y1 := year_ok P
  unfold yearOk at y1
  split at y1
  rotate_left
  · cases y1
  rename_i yl hyl
  simp only [Bool.and_eq_true, decide_eq_true_eq] at y1
  generalize pickV xs 12 = j1 at *
  generalize pickV x1 4 = j2 at *
  generalize pickV x2 10 = j3 at *
  generalize pickV x3 14 = j4 at *
  generalize pickV x4 3 = j5 at *
  have g1 : j1 < 100000 := by omega
  have g2 : j2 < 100000 := by omega
  have g3 : j3 < 100000 := by omega
  have g4 : j4 < 100000 := by omega
  obtain ⟨mo, hmo, hok⟩ : ∃ mo, monL[j1.toNat]? = some mo ∧ monOk mo = true := by
    have hk : j1.toNat < monL.length := by rw [show monL.length = 12 from rfl]; omega
    exact ⟨_, List.getElem?_eq_getElem hk, (List.all_eq_true.mp mon_ok) _ (List.getElem_mem hk)⟩
  unfold monOk at hok
  split at hok
  rotate_left
  · cases hok
  rename_i x y z
  rw [Bool.and_eq_true] at hok
  obtain ⟨hasc, hok⟩ := hok
  obtain ⟨m2, hm2, m2g, m2l, m2n⟩ := pickL hok k2.1 k2.2
  obtain ⟨dy, hdy, dyg, dyl, dyn⟩ := pickL days_ok k3.1 k3.2
  obtain ⟨yr, hyr, yrg, yrl⟩ : ∃ s, yl[j4.toNat]? = some (.str s) ∧ s.all gN = true ∧ s.length ≤ 5 := by
    have hk : j4.toNat < yl.length := by omega
    have := (List.all_eq_true.mp y1.1) _ (List.getElem_mem hk)
    cases e : yl[j4.toNat] with
    | str s =>
      rw [e] at this
      simp only [Bool.and_eq_true, decide_eq_true_eq] at this
      exact ⟨s, by rw [List.getElem?_eq_getElem hk, e], this.1, this.2⟩
    | _ => rw [e] at this; cases this
  simp only [days, List.map_cons, List.map_nil] at hdy
  have tg : (dy ++ 45 :: (m2 ++ 45 :: yr)).all gN = true := by
    rw [List.all_append, List.all_cons, List.all_append, List.all_cons, dyg, m2g, yrg]; decide
  have q := fun n d σ => q478_g P n d σ (dy ++ 45 :: (m2 ++ 45 :: yr)) j5 tg (by cases dy <;> simp) (by simp; omega) k5.1 k5.2
  have b1 : dy.length ≤ 99999 := by omega
  have b2 : dy.length + 1 + m2.length ≤ 100000 := by omega
  have b3 : dy.length + (m2.length + 1) ≤ 99999 := by omega
  have b4 : dy.length + (m2.length + 1) + 1 + yr.length ≤ 100000 := by omega
  have b5 : dy.length + (m2.length + 1 + 1) + yr.length ≤ 100000 := by omega
  obtain ⟨_, hdy2⟩ := List.getElem?_eq_some_iff.mp hdy
  obtain ⟨_, hm22⟩ := List.getElem?_eq_some_iff.mp hm2
  have hasx : ascii [x] = true := by simp only [ascii, List.all_cons, Bool.and_eq_true] at hasc ⊢; exact ⟨hasc.1, rfl⟩
  refine ⟨_, [some (.fl cells), some (.loc 0), some (.str (dy ++ 45 :: (m2 ++ 45 :: yr))), b, some v, some (.str m2), some (.str dy), none, none, none, none, none, none, none, none], [.list (x5.map .int)], rfl, ?_, _, _, _, _, _, _, rfl, rfl, l5⟩
  simp only [nthFor, F483]
  simp [-bnd, -stm, -opt, -mk, evSs_nil, evSs_cons, evS_asg, evS_asgC, evS_asgAt, evS_asgT, evS_expr, evS_ret, evS_ite, evS_raise, evS_try, evE_const, evE_var, evE_not, evE_and, evE_or, evE_ite, evE_bin, evE_cmp, evE_cmp2, evE_call, evE_meth, evE_at, evE_data, evE_sub, evE_slice, evE_tup, evE_list, evE_comp, evT_s, evAll_nil, evAll_cons, evEs_nil, evEs_cons, evO_none, evO_some, evCall_b, evCall_t, evCall_r, evHs, cmpA, binA, bnd_ok, bnd_exc, stm_ok, stm_exc, optv, AV.free, AV.frees, wireC, kindT, eq_int, eq_str, eq_bytes, ti_tup, eq_loc, mb_join, mb_split, mb_lower, mb_upper, mb_pop, mb_indexL, mb_indexV, mb_append, cb_lenS, cb_lenB, cb_lenL, cb_ord, cb_chr, cb_bytesB, cb_bytesL, cb_barr, cb_intS, cb_intI, getL, getL0, setL, setL0, takeL, takeS, takeLk, sb_val, sb_tup, t425, hyl, p1, p2, p3, p4, p5, k1, k2, k3, k4, k5, g1, g2, g3, g4, hmo, hasc, hasx, sliceA, sliceL, optI, hm2, hdy, hyr, hdy2, hm22, q, b1, b2, b3, b4, b5]
end
end Mine
end

section
open PySem PySem.W PyProof.Rows
set_option maxRecDepth 100000
set_option linter.unusedSimpArgs false
set_option linter.unusedVariables false
set_option maxHeartbeats 1000000
namespace Mine
section
variable (P : Params)
theorem last_1 (xs : List AV) : evf P 1988 19 473 [.bytes [49, 45, 74, 97, 110, 45, 50, 48, 48, 49]] [.list xs] = some (.ok .none, [.list xs]) := by kernel_rfl
theorem last_2 (xs : List AV) : evf P 1987 19 473 [.bytes [32]] [.list xs] = some (.ok .none, [.list xs]) := by kernel_rfl
theorem last_3 (xs : List AV) : evf P 1986 19 473 [.bytes [32, 123, 48, 49, 43, 125, 13, 10, 233]] [.list xs] = some (.ok (.int 1), [.list xs]) := by kernel_rfl
theorem law_ok (zs : List Int) (hl : zs.length ≤ 100000) : evf P 2000 20 483 [.fl (zs.map .int)] [] = some (.ok (.bool true), []) := by
  have ht := tab_ok P
  unfold tabOk at ht
  split at ht
  rotate_left
  · cases ht
  rename_i rows hrows
  simp only [Bool.and_eq_true, decide_eq_true_eq] at ht
  rw [evf, evFn_s, F483.2]
  dsimp only [F483]
  simp [-bnd, -stm, -opt, -mk, evSs_nil, evSs_cons, evS_asg, evS_asgC, evS_asgAt, evS_asgT, evS_expr, evS_ret, evS_ite, evS_raise, evS_try, evE_const, evE_var, evE_not, evE_and, evE_or, evE_ite, evE_bin, evE_cmp, evE_cmp2, evE_call, evE_meth, evE_at, evE_data, evE_sub, evE_slice, evE_tup, evE_list, evE_comp, evT_s, evAll_nil, evAll_cons, evEs_nil, evEs_cons, evO_none, evO_some, evCall_b, evCall_t, evCall_r, evHs, cmpA, binA, bnd_ok, bnd_exc, stm_ok, stm_exc, optv, AV.free, AV.frees, wireC, kindT, eq_int, eq_str, eq_bytes, ti_tup, eq_loc, mb_join, mb_split, mb_lower, mb_upper, mb_pop, mb_indexL, mb_indexV, mb_append, cb_lenS, cb_lenB, cb_lenL, cb_ord, cb_chr, cb_bytesB, cb_bytesL, cb_barr, cb_intS, cb_intI, getL, getL0, setL, setL0, takeL, takeS, takeLk, sliceA, optI, sliceL, hl, iterA, evS_for, hrows]
  rw [comp_map (f := id) (c := 50)]
  · have f1 : AV.frees ((zs.take 40).map AV.int) = true := frees_map (fun _ => rfl) _
    obtain ⟨m1, σ1, e1, a, b, rfl, rfl⟩ := for_inv (K := KP P) (FT := cF (KP P)) (d := 19) (ks := [2, 3]) (b := nthFor F483.1.body 0) (C := 900) (tabI (zs.map .int) (zs.take 40)) rows (fun v hv m σ hI N hN => tab_turn P 7 _ _ v ((List.all_eq_true.mp ht.1) v hv) m σ hI N hN) (N := 1996) (by omega) ⟨none, none, rfl, rfl⟩
    have I0 : ∃ m', m' = [some (AV.fl (zs.map .int)), some (AV.loc 0), a, b, none, none, none, none, none, none, none, none, none, none, none] := ⟨_, rfl⟩
    obtain ⟨m2, σ2, e2, a', b', c', e', f', xs, rfl, rfl, hx⟩ := for_inv (K := KP P) (FT := cF (KP P)) (d := 19) (ks := [4]) (b := nthFor F483.1.body 1) (C := 900) (turI (zs.map .int)) ((List.range 5).map fun (i : Nat) => AV.int (i : Int)) (fun v hv m σ hI N hN => turn P 7 _ v m σ hI N hN) (N := 1995) (by simp) (m := [some (AV.fl (zs.map .int)), some (AV.loc 0), a, b, none, none, none, none, none, none, none, none, none, none, none]) (σ := [.list ((zs.take 40).map .int)]) ⟨_, _, _, _, _, _, rfl, rfl, by rw [List.length_take]; omega⟩
    simp only [nthFor, F483] at e1 e2
    have g1 : min 40 zs.length ≤ 100000 := by omega
    simp [-List.map_take, ← List.map_take, -bnd, -stm, -opt, -mk, evSs_nil, evSs_cons, evS_asg, evS_asgC, evS_asgAt, evS_asgT, evS_expr, evS_ret, evS_ite, evS_raise, evS_try, evE_const, evE_var, evE_not, evE_and, evE_or, evE_ite, evE_bin, evE_cmp, evE_cmp2, evE_call, evE_meth, evE_at, evE_data, evE_sub, evE_slice, evE_tup, evE_list, evE_comp, evT_s, evAll_nil, evAll_cons, evEs_nil, evEs_cons, evO_none, evO_some, evCall_b, evCall_t, evCall_r, evHs, cmpA, binA, bnd_ok, bnd_exc, stm_ok, stm_exc, optv, AV.free, AV.frees, wireC, kindT, eq_int, eq_str, eq_bytes, ti_tup, eq_loc, mb_join, mb_split, mb_lower, mb_upper, mb_pop, mb_indexL, mb_indexV, mb_append, cb_lenS, cb_lenB, cb_lenL, cb_ord, cb_chr, cb_bytesB, cb_bytesL, cb_barr, cb_intS, cb_intI, getL, getL0, setL, setL0, takeL, takeS, takeLk, f1, g1, mk]
    rw [e1]
    simp [-List.map_take, ← List.map_take, -List.map_cons, -bnd, -stm, -opt, -mk, evSs_nil, evSs_cons, evS_asg, evS_asgC, evS_asgAt, evS_asgT, evS_expr, evS_ret, evS_ite, evS_raise, evS_try, evE_const, evE_var, evE_not, evE_and, evE_or, evE_ite, evE_bin, evE_cmp, evE_cmp2, evE_call, evE_meth, evE_at, evE_data, evE_sub, evE_slice, evE_tup, evE_list, evE_comp, evT_s, evAll_nil, evAll_cons, evEs_nil, evEs_cons, evO_none, evO_some, evCall_b, evCall_t, evCall_r, evHs, cmpA, binA, bnd_ok, bnd_exc, stm_ok, stm_exc, optv, AV.free, AV.frees, wireC, kindT, eq_int, eq_str, eq_bytes, ti_tup, eq_loc, mb_join, mb_split, mb_lower, mb_upper, mb_pop, mb_indexL, mb_indexV, mb_append, cb_lenS, cb_lenB, cb_lenL, cb_ord, cb_chr, cb_bytesB, cb_bytesL, cb_barr, cb_intS, cb_intI, getL, getL0, setL, setL0, takeL, takeS, takeLk, evS_range]
    rw [e2]
    simp [-bnd, -stm, -opt, -mk, evSs_nil, evSs_cons, evS_asg, evS_asgC, evS_asgAt, evS_asgT, evS_expr, evS_ret, evS_ite, evS_raise, evS_try, evE_const, evE_var, evE_not, evE_and, evE_or, evE_ite, evE_bin, evE_cmp, evE_cmp2, evE_call, evE_meth, evE_at, evE_data, evE_sub, evE_slice, evE_tup, evE_list, evE_comp, evT_s, evAll_nil, evAll_cons, evEs_nil, evEs_cons, evO_none, evO_some, evCall_b, evCall_t, evCall_r, evHs, cmpA, binA, bnd_ok, bnd_exc, stm_ok, stm_exc, optv, AV.free, AV.frees, wireC, kindT, eq_int, eq_str, eq_bytes, ti_tup, eq_loc, mb_join, mb_split, mb_lower, mb_upper, mb_pop, mb_indexL, mb_indexV, mb_append, cb_lenS, cb_lenB, cb_lenL, cb_ord, cb_chr, cb_bytesB, cb_bytesL, cb_barr, cb_intS, cb_intI, getL, getL0, setL, setL0, takeL, takeS, takeLk, last_1, last_2, last_3]
  · intro v hv k hk
    have hv := List.mem_of_mem_take hv
    simp only [List.mem_map] at hv
    obtain ⟨z, _, rfl⟩ := hv
    obtain ⟨k, rfl⟩ : ∃ j, k = j + 50 := ⟨k - 50, by omega⟩
    simp [-bnd, -stm, -opt, -mk, evSs_nil, evSs_cons, evS_asg, evS_asgC, evS_asgAt, evS_asgT, evS_expr, evS_ret, evS_ite, evS_raise, evS_try, evE_const, evE_var, evE_not, evE_and, evE_or, evE_ite, evE_bin, evE_cmp, evE_cmp2, evE_call, evE_meth, evE_at, evE_data, evE_sub, evE_slice, evE_tup, evE_list, evE_comp, evT_s, evAll_nil, evAll_cons, evEs_nil, evEs_cons, evO_none, evO_some, evCall_b, evCall_t, evCall_r, evHs, cmpA, binA, bnd_ok, bnd_exc, stm_ok, stm_exc, optv, AV.free, AV.frees, wireC, kindT, eq_int, eq_str, eq_bytes, ti_tup, eq_loc, mb_join, mb_split, mb_lower, mb_upper, mb_pop, mb_indexL, mb_indexV, mb_append, cb_lenS, cb_lenB, cb_lenL, cb_ord, cb_chr, cb_bytesB, cb_bytesL, cb_barr, cb_intS, cb_intI, getL, getL0, setL, setL0, takeL, takeS, takeLk]
  · simp; omega
end
end Mine
end

section
open PySem PySem.W PySem.Calls PyProof.Rows
set_option maxRecDepth 100000
set_option linter.unusedSimpArgs false
set_option linter.unusedVariables false
set_option maxHeartbeats 1000000
namespace Mine
section
variable (P : Params)
theorem wire_ok : WireOk (KP P) where
  ga := by kernel_rfl
  gk := by kernel_rfl
  hd := ⟨_, by with_unfolding_all rfl, by rfl⟩
  at_ := by kernel_rfl
  data := by kernel_rfl
  sa := by kernel_rfl
  over := by kernel_rfl
theorem store_w : StoreOk (KP P) wireC where
  sa := by kernel_rfl
  cd := ⟨_, by with_unfolding_all rfl, by kernel_rfl, by kernel_rfl, by kernel_rfl, fun self => by kernel_rfl⟩
theorem wire_init : WireInit (KP P) where
  made := by kernel_rfl
  keep := by kernel_rfl
  st := store_w P
  tk1 := by kernel_rfl
  tk2 := by kernel_rfl
  it := by
    refine ⟨?f, ?fd, ?a1, ?a2, ?a3, ?a4, ?b1, ?b2, ?b3, ?b4, ?tz, ?h1, ⟨⟨?oc, ?od, ?sl, ?h2⟩, ?h3, ?h4, ?h5, ?h6, ?h7, ?h8⟩, ?h9, ?h10, ?h11, ?h12, ?h13⟩
    case h1 => with_unfolding_all rfl
    case h2 => with_unfolding_all rfl
    case h3 => rfl
    case h4 => rfl
    case h5 => rfl
    case h6 => decide
    case h7 => kernel_rfl
    case h8 => kernel_rfl
    case h9 => rfl
    case h10 => intro S x u; with_unfolding_all rfl
    case h11 => kernel_rfl
    case h12 => kernel_rfl
    case h13 => kernel_rfl
/-- the way of a class -/
noncomputable def mroB : Option Obj → Option (List Value)
  | some ⟨_, _, .cls cd, _⟩ => some cd.mro
  | _ => none
noncomputable def notIn (K : Frag) (C D : Addr) : Bool := match mroB (K.lookup C) with
  | some l => !l.contains (.ref D)
  | none => false
theorem notIn_ok {K : Frag} {C D : Addr} (h : notIn K C D = true) {nm q N bs bm hdct sn sub ab col dd k0 k1 k2 k3 k5} (e : K.lookup C = some (excClassObj nm q C N bs bm hdct sn sub ab col dd k0 k1 k2 k3 k5 "Exception.__new__")) : (Value.ref C :: bm).contains (.ref D) = false := by
  unfold notIn at h
  rw [e, show mroB (some (excClassObj nm q C N bs bm hdct sn sub ab col dd k0 k1 k2 k3 k5 "Exception.__new__")) = some (Value.ref C :: bm) from rfl] at h
  simpa using h
theorem exc_ok_59 : ExcOk (KP P) 59 where
  obj := by
    refine ⟨?nm, ?q, ?N, ?bs, ?bm, ?hdct, ?sn, ?sub, ?ab, ?col, ?dd, ?k0, ?k1, ?k2, ?k3, ?k5, ?h1, ⟨?h2, ?h3, ?h4, ?h5⟩⟩
    case h1 => with_unfolding_all rfl
    case h2 => kernel_rfl
    case h3 => kernel_rfl
    case h4 => kernel_rfl
    case h5 => kernel_rfl
  keep := by kernel_rfl
  st := ⟨by kernel_rfl, ⟨_, by with_unfolding_all rfl, by kernel_rfl, by kernel_rfl, by kernel_rfl, fun self => by kernel_rfl⟩⟩
  tk1 := by kernel_rfl
  tk2 := by kernel_rfl
  it := by
    refine ⟨?f, ?fd, ?e1, ?e2, ?e3, ?e4, ?e5, ?e6, ?a1, ?a2, ?a3, ?a4, ?b1, ?b2, ?b3, ?b4, ?h1, ⟨⟨?oc, ?od, ?sl, ?h2⟩, ?h3, ?h4, ?h5, ?h6, ?h7, ?h8⟩, ?h9, ?h9b, ?h10, ?h11, ?h12, ?h13, ?h14, ?h15, ?h16⟩
    case h1 => with_unfolding_all rfl
    case h2 => with_unfolding_all rfl
    case h3 => rfl
    case h4 => rfl
    case h5 => rfl
    case h6 => decide
    case h7 => kernel_rfl
    case h8 => kernel_rfl
    case h9 => rfl
    case h9b => rfl
    case h10 => intro S x u v; with_unfolding_all rfl
    case h11 => kernel_rfl
    case h12 => kernel_rfl
    case h13 => kernel_rfl
    case h14 => kernel_rfl
    case h15 => rfl
    case h16 => rfl
  gl := by kernel_rfl
  gb := by kernel_rfl
theorem exc_read_59 : ExcRead (KP P) 59 where
  ga := by kernel_rfl
  gk := by kernel_rfl
  at_ := by kernel_rfl
  cd := ⟨_, by with_unfolding_all rfl, by kernel_rfl, by kernel_rfl, by kernel_rfl⟩
theorem exc_ok_71 : ExcOk (KP P) 71 where
  obj := by
    refine ⟨?nm, ?q, ?N, ?bs, ?bm, ?hdct, ?sn, ?sub, ?ab, ?col, ?dd, ?k0, ?k1, ?k2, ?k3, ?k5, ?h1, ⟨?h2, ?h3, ?h4, ?h5⟩⟩
    case h1 => with_unfolding_all rfl
    case h2 => kernel_rfl
    case h3 => kernel_rfl
    case h4 => kernel_rfl
    case h5 => kernel_rfl
  keep := by kernel_rfl
  st := ⟨by kernel_rfl, ⟨_, by with_unfolding_all rfl, by kernel_rfl, by kernel_rfl, by kernel_rfl, fun self => by kernel_rfl⟩⟩
  tk1 := by kernel_rfl
  tk2 := by kernel_rfl
  it := by
    refine ⟨?f, ?fd, ?e1, ?e2, ?e3, ?e4, ?e5, ?e6, ?a1, ?a2, ?a3, ?a4, ?b1, ?b2, ?b3, ?b4, ?h1, ⟨⟨?oc, ?od, ?sl, ?h2⟩, ?h3, ?h4, ?h5, ?h6, ?h7, ?h8⟩, ?h9, ?h9b, ?h10, ?h11, ?h12, ?h13, ?h14, ?h15, ?h16⟩
    case h1 => with_unfolding_all rfl
    case h2 => with_unfolding_all rfl
    case h3 => rfl
    case h4 => rfl
    case h5 => rfl
    case h6 => decide
    case h7 => kernel_rfl
    case h8 => kernel_rfl
    case h9 => rfl
    case h9b => rfl
    case h10 => intro S x u v; with_unfolding_all rfl
    case h11 => kernel_rfl
    case h12 => kernel_rfl
    case h13 => kernel_rfl
    case h14 => kernel_rfl
    case h15 => rfl
    case h16 => rfl
  gl := by kernel_rfl
  gb := by kernel_rfl
theorem exc_read_71 : ExcRead (KP P) 71 where
  ga := by kernel_rfl
  gk := by kernel_rfl
  at_ := by kernel_rfl
  cd := ⟨_, by with_unfolding_all rfl, by kernel_rfl, by kernel_rfl, by kernel_rfl⟩
theorem exc_ok_83 : ExcOk (KP P) 83 where
  obj := by
    refine ⟨?nm, ?q, ?N, ?bs, ?bm, ?hdct, ?sn, ?sub, ?ab, ?col, ?dd, ?k0, ?k1, ?k2, ?k3, ?k5, ?h1, ⟨?h2, ?h3, ?h4, ?h5⟩⟩
    case h1 => with_unfolding_all rfl
    case h2 => kernel_rfl
    case h3 => kernel_rfl
    case h4 => kernel_rfl
    case h5 => kernel_rfl
  keep := by kernel_rfl
  st := ⟨by kernel_rfl, ⟨_, by with_unfolding_all rfl, by kernel_rfl, by kernel_rfl, by kernel_rfl, fun self => by kernel_rfl⟩⟩
  tk1 := by kernel_rfl
  tk2 := by kernel_rfl
  it := by
    refine ⟨?f, ?fd, ?e1, ?e2, ?e3, ?e4, ?e5, ?e6, ?a1, ?a2, ?a3, ?a4, ?b1, ?b2, ?b3, ?b4, ?h1, ⟨⟨?oc, ?od, ?sl, ?h2⟩, ?h3, ?h4, ?h5, ?h6, ?h7, ?h8⟩, ?h9, ?h9b, ?h10, ?h11, ?h12, ?h13, ?h14, ?h15, ?h16⟩
    case h1 => with_unfolding_all rfl
    case h2 => with_unfolding_all rfl
    case h3 => rfl
    case h4 => rfl
    case h5 => rfl
    case h6 => decide
    case h7 => kernel_rfl
    case h8 => kernel_rfl
    case h9 => rfl
    case h9b => rfl
    case h10 => intro S x u v; with_unfolding_all rfl
    case h11 => kernel_rfl
    case h12 => kernel_rfl
    case h13 => kernel_rfl
    case h14 => kernel_rfl
    case h15 => rfl
    case h16 => rfl
  gl := by kernel_rfl
  gb := by kernel_rfl
theorem exc_read_83 : ExcRead (KP P) 83 where
  ga := by kernel_rfl
  gk := by kernel_rfl
  at_ := by kernel_rfl
  cd := ⟨_, by with_unfolding_all rfl, by kernel_rfl, by kernel_rfl, by kernel_rfl⟩
theorem exc_ok (C : Addr) (h : isExcC C) : ExcOk (KP P) C := by
  rcases h with rfl | rfl | rfl
  · exact exc_ok_59 P
  · exact exc_ok_71 P
  · exact exc_ok_83 P
theorem cls_ok : ClsOk (KP P) := ⟨wire_ok P, wire_init P, exc_ok P⟩
theorem exc_all : ExcAll (KP P) where
  ok := exc_ok P
  rd := fun C h => by
    rcases h with rfl | rfl | rfl
    · exact exc_read_59 P
    · exact exc_read_71 P
    · exact exc_read_83 P
  only := fun C D hC hD hne nm q N bs bm hdct sn sub ab col dd k0 k1 k2 k3 k5 e => by
    refine notIn_ok ?_ e
    rcases hC with rfl | rfl | rfl <;> rcases hD with rfl | rfl | rfl <;> first | exact absurd rfl hne | kernel_rfl
end
end Mine
end

section
open PySem PySem.W PySem.Calls PyProof.Rows
set_option maxRecDepth 100000
set_option linter.unusedSimpArgs false
set_option linter.unusedVariables false
set_option maxHeartbeats 8000000
namespace Mine
section
variable {prog : Program} {w : World} {K : Frag} {p : Program} {loose : List Str} {mean : ExcName → Option Value} {mg mb : Str → Option Value} {g₀ : Heap}
/-- the whole heap is the ground -/
noncomputable def Gh.all (h : Heap) : Gh := ⟨h.get?, fun _ => none⟩
theorem Inv.all (h : Heap) : Inv h (Gh.all h) [] [] h where
  base := fun _ _ e => e
  fz := fun _ _ e => e
  fs := fun _ h => nomatch h
  nd := .nil
  so := fun _ _ e => (nomatch e)
  lo := fun _ _ e => (nomatch e)
  inj := fun _ _ _ e => (nomatch e)

/-- a call from without: it comes back with True -/
theorem fn_top {n d : Nat} {A : Around} {s : Shared} {a : Addr} {as : List AV} {us : List Value} {Q : Value → Shared → Prop} {E : Value → Shared → Prop} (O : TopOk K p loose mean mg mb s.heap) (W : ClsOk K) (WE : ExcAll K) (hh : A.handled = none) (hfr : A.frames = some []) (hR : Room A (d + 1))
    (hx : evFn K (cF K) (n + 1) (d + 1) a as [] = some (.ok (.bool true), [])) (ha : VRs (Gh.all s.heap) as us) (fin : ∀ h' tk, (∀ b o, s.heap.get? b = some o → h'.get? b = some o) → Q (.bool true) { s with heap := h', toks := tk }) :
    wpS (model prog w) A (call (.ref a) us) Q E s := by
  have AA := all (prog := prog) (w := w) O W WE n n (Nat.le_refl _)
  have I := Inv.all s.heap
  rw [evFn_s] at hx
  split at hx
  · rename_i np nl ib hF
    split at hx
    · rename_i hnp
      obtain ⟨oc, od, fd, sl, bd, hl, hb, ok, hcs, rfl, rfl⟩ := cF_some hF
      have F := okF_ok ok
      have ho : s.heap.get? a = some ⟨oc, od, .func fd, sl⟩ := O.X _ _ hl
      have hul : us.length = fd.params.args.length := ha.length.trans hnp.1
      have ndA : (fd.params.args.map (·.arg)).Nodup := by rw [← F.names]; exact F.nd.sublist (List.take_sublist _ _)
      have hbind := bind_plain F.p1 F.p2 F.p3 F.p4 F.dfl hul ndA
      refine wpS_call (codeS_def (by have := hR.1; omega) ho rfl O.T.nolimit (codeRec_of O.X F.code) hb hbind F.cell (fun x hx => ?_) F.co F.gen F.kind fun h₀ hns kp => ?_)
      · obtain ⟨i, hi⟩ := List.mem_iff_getElem?.mp hx
        rw [List.getElem?_zip_eq_some] at hi
        obtain ⟨y, hy, e⟩ := List.mem_map.mp (List.mem_of_getElem? hi.1)
        rw [← e]; exact F.loc y hy
      · have I0 : Inv s.heap (Gh.all s.heap) ((s.heap.objs.size, frmP fun x => ((fd.params.args.map (·.arg)).zip us).reverse.lookup x) :: []) [] h₀ := I.push kp (get_size _) (Nat.le_refl _) (frmP.of hns)
        have hfr' : (callCx A fd s.heap.objs.size a).A.frames = some (callEnv fd s.heap.objs.size a :: []) := by
          show A.frames.map _ = _
          rw [hfr]; rfl
        have FrN : ∀ mm', FrIn ((s.heap.objs.size, frmP mm') :: []) (callEnv fd s.heap.objs.size a :: []) := fun mm' env he => by
          rcases List.mem_cons.mp he with rfl | he
          · exact ⟨by show fd.scope.kind ≠ _; rw [F.kind]; decide, _, _, rfl, .head _, Slt.frm _⟩
          · nomatch he
        have st0 : St s.heap (callCx A fd s.heap.objs.size a) [] d (as.map some ++ List.replicate (fd.scope.names.length - fd.params.args.length) none) [] (Gh.all s.heap) (fun x => ((fd.params.args.map (·.arg)).zip us).reverse.lookup x) h₀ := by
          refine ⟨I0, fun i x v hi hv => ?_, ⟨_, hfr', FrN _⟩, ?_⟩
          · have hlt : i < as.length := by
              rcases Nat.lt_or_ge i as.length with z | z
              · exact z
              · rw [List.getElem?_append_right (by simpa using z), List.getElem?_replicate] at hv
                split at hv <;> cases hv
            rw [List.getElem?_append_left (by simpa using hlt), List.getElem?_map] at hv
            simp only [Option.map_eq_some_iff] at hv
            obtain ⟨v', hv', e⟩ := hv
            cases e
            obtain ⟨u, hu, hr⟩ := ha.get hv'
            have hi' : (fd.params.args.map (·.arg))[i]? = some x := by
              rw [← F.names, List.getElem?_take, if_pos (by omega)]
              exact hi
            exact ⟨u, zip_lookup ndA (by simpa using hul) hi' hu, hr⟩
          · have h1 := hR.1
            have h2 := hR.2
            refine ⟨?_, ?_⟩
            · show A.depth + 1 + 3 * d + 3 < _; omega
            · show A.units + 3 + 20 * d + 100 < _; omega
        have sub : SubS prog w s.heap (callCx A fd s.heap.objs.size a) [] d (execs bd (callEnv fd s.heap.objs.size a)) (fun m σ => evSs K (cF K) n d ib m σ) := AA.ss d (callCx A fd s.heap.objs.size a) [] 40 bd ib (callCx_ok F hh) ⟨[], hfr'⟩ hcs
        split at hx
        · cases hx
        · rename_i v m₁ σ₁ e1
          refine sub e1 st0 ⟨fun _ _ q => (nomatch q), fun v' m' σ' q mm' u g' h' tk le I' hu => ?_, fun _ _ _ q => (nomatch q)⟩
          cases q
          have hv : v = .bool true := by
            split at hx
            · cases hx; rfl
            · split at hx
              · cases hx; rfl
              · cases hx
          subst hv
          rw [show u = .bool true from hu]
          exact fin h' tk fun b o e => I'.fz _ _ (I'.base _ _ e)
        · cases hx
        · cases hx
    · cases hx
  · cases hx
end
theorem VRs.ints {g : Gh} : ∀ {us : List Value} {zs : List Int}, IntsAre us zs → VRs g (zs.map .int) us
  | _, _, .nil => rfl
  | _, _, .cons i t r => ⟨_, _, rfl, ⟨t, rfl⟩, VRs.ints r⟩
theorem room_top : Room callerA 20 := ⟨by decide, by decide⟩
end Mine
end

section
open PySem PySem.W PySem.Calls PyProof.Rows
set_option maxRecDepth 100000
set_option linter.unusedVariables false
set_option maxHeartbeats 8000000
namespace Mine
/-- the places of the written heap -/
noncomputable def adrs : List Addr := [2, 3, 15, 17, 18, 20, 21, 22, 29, 30, 32, 33, 35, 36, 37, 39, 40, 42, 43, 44, 45, 46, 47, 50, 57, 58, 59, 62, 69, 70, 71, 74, 81, 82, 83, 86, 88, 89, 91, 92, 93, 96, 97, 98, 101, 102, 103, 106, 107, 108, 111, 112, 113, 114, 116, 117, 119, 120, 121, 123, 124, 126, 127, 128, 130, 131, 133, 134, 135, 138, 139, 140, 143, 144, 145, 147, 148, 150, 151, 152, 154, 155, 157, 158, 159, 161, 162, 164, 165, 173, 175, 176, 178, 179, 180, 182, 183, 185, 186, 187, 188, 189, 190, 191, 194, 196, 197, 199, 200, 201, 203, 204, 206, 207, 208, 210, 211, 213, 214, 215, 217, 218, 220, 221, 222, 224, 225, 227, 228, 229, 231, 232, 234, 235, 243, 244, 246, 247, 249, 250, 251, 253, 254, 256, 257, 258, 260, 261, 263, 264, 265, 267, 268, 270, 271, 272, 274, 275, 277, 278, 279, 281, 282, 284, 285, 286, 288, 289, 291, 292, 293, 295, 296, 298, 299, 300, 302, 303, 305, 306, 307, 309, 310, 312, 313, 314, 316, 317, 319, 320, 321, 323, 324, 326, 327, 328, 330, 331, 333, 334, 335, 337, 338, 340, 341, 342, 344, 345, 347, 348, 349, 351, 352, 354, 355, 356, 358, 359, 361, 362, 363, 365, 366, 368, 369, 370, 372, 373, 375, 376, 377, 379, 380, 382, 383, 384, 386, 387, 389, 390, 391, 393, 394, 396, 397, 398, 400, 401, 403, 404, 405, 408, 409, 410, 411, 413, 414, 416, 417, 418, 419, 420, 421, 422, 425, 426, 427, 428, 429, 430, 431, 432, 433, 434, 435, 436, 437, 438, 439, 440, 441, 442, 443, 444, 445, 446, 447, 448, 450, 451, 453, 454, 455, 457, 458, 460, 461, 462, 465, 466, 467, 469, 470, 472, 473, 474, 477, 478, 479, 482, 483]
-- the names of twins that the head would make: taken ahead, so that it goes without them (their proofs are quadratic in the names: 60 MB)
theorem fin.tw16407147864228438881 : True := trivial
theorem fin.tw13874079823792681176 : True := trivial
theorem fin.tw14142754788403991900 : True := trivial
theorem fin.tw16231923513822398981 : True := trivial
theorem fin.tw15404779385268061136 : True := trivial
theorem fin.tw8303820723863979226 : True := trivial
theorem fin.tw244944058534012095 : True := trivial
theorem fin.tw14411825300668909728 : True := trivial
theorem fin.tw10891054232620793217 : True := trivial
theorem fin.tw408639608801826244 : True := trivial
theorem fin.tw3912488439876925007 : True := trivial
theorem fin.tw6212231773793914550 : True := trivial
theorem fin.tw4232310507111121658 : True := trivial
theorem fin.tw17682806996416514929 : True := trivial
theorem fin.tw12304228606943202825 : True := trivial
theorem fin.tw4676172222709878277 : True := trivial
theorem fin.tw14495431336439861174 : True := trivial
theorem fin.tw14332859949639240327 : True := trivial
theorem fin.tw16889484823980962733 : True := trivial
theorem fin.tw17434812882584663159 : True := trivial
theorem fin.tw1243297681173986017 : True := trivial
theorem fin.tw16471564285230226018 : True := trivial
theorem fin.tw8462624477310905004 : True := trivial
theorem fin.tw11112386831996348380 : True := trivial
theorem fin.tw14425540821336420448 : True := trivial
theorem fin.tw6907013181778514091 : True := trivial
theorem fin.tw9825859731914700964 : True := trivial
theorem fin.tw8569027658895312972 : True := trivial
theorem fin.tw3211687289105081006 : True := trivial
theorem fin.tw11587955951900863698 : True := trivial
theorem fin.tw17717364068325071970 : True := trivial
theorem fin.tw1951045429614898598 : True := trivial
theorem fin.tw423345284130997744 : True := trivial
theorem fin.tw7930893340574950883 : True := trivial
theorem fin.tw4312942655851389009 : True := trivial
theorem fin.tw15688172546075569117 : True := trivial
theorem fin.tw4209717502836232480 : True := trivial
theorem fin.tw4723787954990577340 : True := trivial
theorem fin.tw15216479089859931547 : True := trivial
theorem fin.tw11454252539852477091 : True := trivial
theorem fin.tw13337293482115323266 : True := trivial
theorem fin.tw7439575562449295702 : True := trivial
theorem fin.tw16175276709679454751 : True := trivial
theorem fin.tw7976502392129159676 : True := trivial
theorem fin.tw16229209127682248589 : True := trivial
theorem fin.tw6667815254911646788 : True := trivial
theorem fin.tw17149882997012438147 : True := trivial
theorem fin.tw3955986520655104412 : True := trivial
theorem fin.tw17896612028031085017 : True := trivial
theorem fin.tw428092273266315144 : True := trivial
theorem fin.tw16906536467411238026 : True := trivial
theorem fin.tw1625080806587739848 : True := trivial
theorem fin.tw16510490156224867327 : True := trivial
theorem fin.tw3199103547748192838 : True := trivial
theorem fin.tw4928979718650693569 : True := trivial
theorem fin.tw6058378993454661626 : True := trivial
theorem fin.tw17416127249078093707 : True := trivial
theorem fin.tw6341822008880759003 : True := trivial
theorem fin.tw6712194924023145494 : True := trivial
theorem fin.tw2067723777617599883 : True := trivial
theorem fin.tw1544503264643628384 : True := trivial
theorem fin.tw4395496475954998127 : True := trivial
theorem fin.tw15566928917628492161 : True := trivial
theorem fin.tw16252508478716706905 : True := trivial
theorem fin.tw15523922138108190246 : True := trivial
theorem fin.tw9001875181463519149 : True := trivial
theorem fin.tw7830629276484211593 : True := trivial
theorem fin.tw4588413851689716618 : True := trivial
theorem fin.tw10852849658779182186 : True := trivial
theorem fin.tw1128348596072947701 : True := trivial
theorem fin.tw18295790063311454060 : True := trivial
theorem fin.tw4180101509539245183 : True := trivial
theorem fin.tw15309079848183770524 : True := trivial
theorem fin.tw17130245016438642246 : True := trivial
theorem fin.tw3112429581023547943 : True := trivial
theorem fin.tw828056024939588000 : True := trivial
theorem fin.tw13574545013463194659 : True := trivial
theorem fin.tw17123178472405020103 : True := trivial
theorem fin.tw4878226113927451544 : True := trivial
theorem fin.tw6766378078585498003 : True := trivial
theorem fin.tw4769821431679368130 : True := trivial
theorem fin.tw7995362448368537469 : True := trivial
theorem fin.tw5250828734511838712 : True := trivial
theorem fin.tw7380833856163905736 : True := trivial
theorem fin.tw5962627729488381771 : True := trivial
theorem fin.tw3506512066687448480 : True := trivial
theorem fin.tw12347537446847802165 : True := trivial
theorem fin.tw3105451386036433885 : True := trivial
theorem fin.tw1545086475593560577 : True := trivial
theorem fin.tw6718411051458867188 : True := trivial
theorem fin.tw13360279666012451719 : True := trivial
theorem fin.tw803859442106103436 : True := trivial
theorem fin.tw14075178694198228753 : True := trivial
theorem fin.tw16934629359412608497 : True := trivial
theorem fin.tw1560641971993327685 : True := trivial
theorem fin.tw9297318355482256503 : True := trivial
theorem fin.tw8261031787919469916 : True := trivial
theorem fin.tw9725021084223525626 : True := trivial
theorem fin.tw3885313090954376144 : True := trivial
theorem fin.tw14333544728242365436 : True := trivial
theorem fin.tw9997704412844104603 : True := trivial
theorem fin.tw1080700006314346644 : True := trivial
theorem fin.tw13021059552284102479 : True := trivial
theorem fin.tw4171678462856256454 : True := trivial
theorem fin.tw3974152918291533672 : True := trivial
theorem fin.tw9221430085559818832 : True := trivial
theorem fin.tw10580198807604790814 : True := trivial
theorem fin.tw3432132637015033673 : True := trivial
theorem fin.tw4100293265295638779 : True := trivial
theorem fin.tw15583698165555649274 : True := trivial
theorem fin.tw4043148821406017626 : True := trivial
theorem fin.tw11192643925408225281 : True := trivial
theorem fin.tw2910385600587045654 : True := trivial
theorem fin.tw10234915967203826555 : True := trivial
theorem fin.tw6449190631224713292 : True := trivial
theorem fin.tw14279960228734115912 : True := trivial
theorem fin.tw9218923581257491847 : True := trivial
theorem fin.tw982560976839675504 : True := trivial
theorem fin.tw2377308710366028375 : True := trivial
theorem fin.tw14679806638718605512 : True := trivial
theorem fin.tw3998398428148030388 : True := trivial
theorem fin.tw10782327089294195420 : True := trivial
theorem fin.tw4326780796455107134 : True := trivial
theorem fin.tw13898374239775968522 : True := trivial
theorem fin.tw12847644182280273618 : True := trivial
theorem fin.tw12946824338688289833 : True := trivial
theorem fin.tw12711679700452659978 : True := trivial
theorem fin.tw7334248845499685764 : True := trivial
theorem fin.tw8416529770105884409 : True := trivial
theorem fin.tw3810570522144960214 : True := trivial
theorem fin.tw1422313219903470601 : True := trivial
theorem fin.tw6498334528663615478 : True := trivial
theorem fin.tw8643116662766533202 : True := trivial
theorem fin.tw15201286185872193147 : True := trivial
theorem fin.tw9746214513668125432 : True := trivial
theorem fin.tw14541005305830221311 : True := trivial
theorem fin.tw10279692637995926009 : True := trivial
theorem fin.tw2789213428527533208 : True := trivial
theorem fin.tw612862322836996645 : True := trivial
theorem fin.tw4218790737952374519 : True := trivial
theorem fin.tw14254621764821748828 : True := trivial
theorem fin.tw7613945582906998725 : True := trivial
theorem fin.tw4924110625330727750 : True := trivial
theorem fin.tw1088692219920020602 : True := trivial
theorem fin.tw14134379338385194387 : True := trivial
theorem fin.tw7613857476909055813 : True := trivial
theorem fin.tw18105942590061964161 : True := trivial
theorem fin.tw1713156846745171867 : True := trivial
theorem fin.tw12135189313929291683 : True := trivial
theorem fin.tw6515953530934532768 : True := trivial
theorem fin.tw6289197191216398940 : True := trivial
theorem fin.tw17570709534508481193 : True := trivial
theorem fin.tw17041991840579044601 : True := trivial
theorem fin.tw8119881530291889089 : True := trivial
theorem fin.tw12669758225909598566 : True := trivial
theorem fin.tw12876064707754696378 : True := trivial
theorem fin.tw4162185377826839926 : True := trivial
theorem fin.tw17698704350827878285 : True := trivial
theorem fin.tw2656788454239962097 : True := trivial
theorem fin.tw1035503724928835527 : True := trivial
theorem fin.tw11227884535216515135 : True := trivial
theorem fin.tw6766580051018981234 : True := trivial
theorem fin.tw15533503492667675913 : True := trivial
theorem fin.tw5071919506433949198 : True := trivial
theorem fin.tw9917203430921899224 : True := trivial
theorem fin.tw8272817396058243321 : True := trivial
theorem fin.tw14855157385224911753 : True := trivial
theorem fin.tw9746901515087519452 : True := trivial
theorem fin.tw13093503161671486093 : True := trivial
theorem fin.tw9757074474933493440 : True := trivial
theorem fin.tw3767311804947220896 : True := trivial
theorem fin.tw2304379251839397102 : True := trivial
theorem fin.tw3837020019201816242 : True := trivial
theorem fin.tw5486226609284752418 : True := trivial
theorem fin.tw17662344363894024548 : True := trivial
theorem fin.tw5073790198343104882 : True := trivial
theorem fin.tw4144819383078699286 : True := trivial
theorem fin.tw2051409578822353534 : True := trivial
theorem fin.tw11147117730913898307 : True := trivial
theorem fin.tw7716820226725407877 : True := trivial
theorem fin.tw3794220679723124481 : True := trivial
theorem fin.tw12284014389350100970 : True := trivial
theorem fin.tw5115476493328737885 : True := trivial
theorem fin.tw17311274769643918242 : True := trivial
theorem fin.tw11293339424137598113 : True := trivial
theorem fin.tw2503846163805864124 : True := trivial
theorem fin.tw3404873503106905745 : True := trivial
theorem fin.tw3788772014149755174 : True := trivial
theorem fin.tw11154830654865731599 : True := trivial
theorem fin.tw12557769604369416430 : True := trivial
theorem fin.tw14111491100615862519 : True := trivial
theorem fin.tw15399907426655090358 : True := trivial
theorem fin.tw9913140749668108558 : True := trivial
theorem fin.tw17861066769153400444 : True := trivial
theorem fin.tw8025084765662995669 : True := trivial
theorem fin.tw15459455144867644326 : True := trivial
theorem fin.tw111200028466390044 : True := trivial
theorem fin.tw16488607150827929282 : True := trivial
theorem fin.tw4768634762848416435 : True := trivial
theorem fin.tw9247658263007524724 : True := trivial
theorem fin.tw7661832156752021035 : True := trivial
theorem fin.tw8330952907988395303 : True := trivial
theorem fin.tw16103849850496634939 : True := trivial
theorem fin.tw16256441300576474876 : True := trivial
theorem fin.tw10511823565363050587 : True := trivial
theorem fin.tw8288733244629462318 : True := trivial
theorem fin.tw10829458402184033698 : True := trivial
theorem fin.tw6323506392446703087 : True := trivial
theorem fin.tw1249118550022496774 : True := trivial
theorem fin.tw14166196953294261902 : True := trivial
theorem fin.tw12740692763255036000 : True := trivial
theorem fin.tw12550770813317053977 : True := trivial
theorem fin.tw3550807849831375056 : True := trivial
theorem fin.tw11061592194353771069 : True := trivial
theorem fin.tw8919302590299486024 : True := trivial
theorem fin.tw4598667867955821814 : True := trivial
theorem fin.tw16798467561266328274 : True := trivial
theorem fin.tw17570509445847580414 : True := trivial
theorem fin.tw5098551885099359569 : True := trivial
theorem fin.tw6531376189190222733 : True := trivial
theorem fin.tw12180539936304867106 : True := trivial
theorem fin.tw18373065035072037172 : True := trivial
theorem fin.tw11039862389202566683 : True := trivial
theorem fin.tw12141802397888321627 : True := trivial
theorem fin.tw3314143786362844604 : True := trivial
theorem fin.tw15741700470354863883 : True := trivial
theorem fin.tw846297522682114974 : True := trivial
theorem fin.tw2565351972500760935 : True := trivial
theorem fin.tw10599938827571368224 : True := trivial
theorem fin.tw8408514402456403777 : True := trivial
theorem fin.tw10708223146118651492 : True := trivial
theorem fin.tw17628183408451194143 : True := trivial
theorem fin.tw8352470293576582857 : True := trivial
theorem fin.tw3683778510129048087 : True := trivial
theorem fin.tw6525817661751114472 : True := trivial
theorem fin.tw14568449535678555946 : True := trivial
theorem fin.tw10147658903529517814 : True := trivial
theorem fin.tw7282745182861764756 : True := trivial
theorem fin.tw13177410634674063896 : True := trivial
theorem fin.tw16109372258727991565 : True := trivial
theorem fin.tw10391319463526535247 : True := trivial
theorem fin.tw1209720653154232198 : True := trivial
theorem fin.tw16540275574145912595 : True := trivial
theorem fin.tw5320702786494000081 : True := trivial
theorem fin.tw10807920368746810246 : True := trivial
theorem fin.tw6207176494656529804 : True := trivial
theorem fin.tw1635022588487117616 : True := trivial
theorem fin.tw9839346839192117915 : True := trivial
theorem fin.tw7822013112032934038 : True := trivial
theorem fin.tw12567809125941998234 : True := trivial
theorem fin.tw6381419901266130222 : True := trivial
theorem fin.tw14210890002308233579 : True := trivial
theorem fin.tw6081921254191324426 : True := trivial
theorem fin.tw3343445320678177929 : True := trivial
theorem fin.tw18082680734076937219 : True := trivial
theorem fin.tw17933470926392208243 : True := trivial
theorem fin.tw744865244796547220 : True := trivial
theorem fin.tw17260493314774615805 : True := trivial
theorem fin.tw12629903358213643309 : True := trivial
theorem fin.tw7522001649326652513 : True := trivial
theorem fin.tw8947099994592609211 : True := trivial
theorem fin.tw1012361349325877821 : True := trivial
theorem fin.tw4265850918314828415 : True := trivial
theorem fin.tw7055459427971326715 : True := trivial
theorem fin.tw500868675978126160 : True := trivial
theorem fin.tw12868640280835112553 : True := trivial
theorem fin.tw12291753297600562012 : True := trivial
theorem fin.tw4640724917100965312 : True := trivial
theorem fin.tw18195182924450695511 : True := trivial
theorem fin.tw10329872625359487480 : True := trivial
theorem fin.tw14139026862911339306 : True := trivial
theorem fin.tw4013537778516871869 : True := trivial
theorem fin.tw6454446336052903152 : True := trivial
theorem fin.tw18255404467826089762 : True := trivial
theorem fin.tw13815853411582834384 : True := trivial
theorem fin.tw5106123347721008290 : True := trivial
theorem fin.tw5266742908149448401 : True := trivial
theorem fin.tw12355744275394475900 : True := trivial
theorem fin.tw6815667921103612162 : True := trivial
theorem fin.tw799341379326975648 : True := trivial
theorem fin.tw2896703901015224195 : True := trivial
theorem fin.tw17204297501091165112 : True := trivial
theorem fin.tw14728723275428758510 : True := trivial
theorem fin.tw17743408960866722510 : True := trivial
theorem fin.tw15344004072050561172 : True := trivial
theorem fin.tw6400248389586479577 : True := trivial
theorem fin.tw10098057777631523497 : True := trivial
theorem fin.tw8656503046869711584 : True := trivial
theorem fin.tw12212933522069011988 : True := trivial
theorem fin.tw15225332579556243176 : True := trivial
theorem fin.tw888132650186811988 : True := trivial
theorem fin.tw2617349483901765261 : True := trivial
theorem fin.tw13516622038369049944 : True := trivial
theorem fin.tw13870153662132920491 : True := trivial
theorem fin.tw15094949803261831281 : True := trivial
theorem fin.tw6968583824967984638 : True := trivial
theorem fin.tw12149302876761508202 : True := trivial
theorem fin.tw8289400949097046189 : True := trivial
theorem fin.tw12237877928780879103 : True := trivial
theorem fin.tw3906754673857718949 : True := trivial
theorem fin.tw12809788781938459499 : True := trivial
theorem fin.tw14637358334870819178 : True := trivial
theorem fin.tw2976117146107443816 : True := trivial
theorem fin.tw10751089155417173751 : True := trivial
theorem fin.tw17719728818120068181 : True := trivial
theorem fin.tw373065315874586923 : True := trivial
theorem fin.tw11936995450923721628 : True := trivial
theorem fin.tw14109310954907245088 : True := trivial
theorem fin.tw12464766053444552404 : True := trivial
theorem fin.tw4424551920762525699 : True := trivial
theorem fin.tw12649782002744950493 : True := trivial
theorem fin.tw17449020081951674710 : True := trivial
theorem fin.tw7451905468542833597 : True := trivial
theorem fin.tw14856888987745899463 : True := trivial
theorem fin.tw17974384156558142227 : True := trivial
theorem fin.tw5196160543931855155 : True := trivial
theorem fin.tw4806268862455609328 : True := trivial
theorem fin.tw2608567993692976607 : True := trivial
theorem fin.tw11414119711712004833 : True := trivial
theorem fin.tw4684940682943077961 : True := trivial
theorem fin.tw4950403968356008110 : True := trivial
theorem fin.tw891787732878383699 : True := trivial
theorem fin.tw17637551073024348614 : True := trivial
theorem fin.tw16867096813858660809 : True := trivial
theorem fin.tw4170516301191304579 : True := trivial
theorem fin.tw17347454772498655404 : True := trivial
theorem fin.tw13326868189938593150 : True := trivial
theorem fin.tw17108682257543074861 : True := trivial
theorem fin.tw6232080684201472732 : True := trivial
theorem fin.tw14838103818555229697 : True := trivial
theorem fin.tw16307707646766795581 : True := trivial
theorem fin.tw5796354222422608987 : True := trivial
theorem fin.tw9735714214384596553 : True := trivial
theorem fin.tw4879674094562380441 : True := trivial
theorem fin.tw6127190174262240918 : True := trivial
theorem fin.tw6385529401280152062 : True := trivial
theorem fin.tw3975253019698251321 : True := trivial
theorem fin.tw4992356995671143779 : True := trivial
theorem fin.tw2316539691658765527 : True := trivial
theorem fin.tw848606289541702500 : True := trivial
theorem fin.tw7321584467024264148 : True := trivial
theorem fin.tw13383306551100868464 : True := trivial
theorem fin.tw5734618986648460908 : True := trivial
theorem fin.tw2671655128345628175 : True := trivial
theorem fin.tw13162651487661262736 : True := trivial
theorem fin.tw6388184931127306564 : True := trivial
theorem fin.tw13814004702073501669 : True := trivial
theorem fin.tw7278507554335971580 : True := trivial
theorem fin.tw3173534031939492945 : True := trivial
theorem fin.tw16196181902256332553 : True := trivial
theorem fin.tw12612204703400128841 : True := trivial
theorem fin.tw6566618420281934 : True := trivial
theorem fin.tw1105837973531982728 : True := trivial
theorem fin.tw17701328389417463424 : True := trivial
theorem fin.tw16275787546110486726 : True := trivial
theorem fin.tw18387650150990424433 : True := trivial
theorem fin.tw6474043946942992101 : True := trivial
theorem fin.tw10383673109516279431 : True := trivial
theorem fin.tw5227809002895711924 : True := trivial
theorem fin.tw13790858721211988464 : True := trivial
theorem fin.tw12780881840741157306 : True := trivial
theorem fin.tw12221555665107904926 : True := trivial
theorem fin.tw5011121235533021005 : True := trivial
theorem fin.tw15590172107835277464 : True := trivial
theorem fin.tw8018989035897545986 : True := trivial
theorem fin.tw3302319216010004292 : True := trivial
theorem fin.tw9712136527352899355 : True := trivial
theorem fin.tw12696600883282566439 : True := trivial
theorem fin.tw12494888245299231016 : True := trivial
theorem fin.tw8590288500278120515 : True := trivial
theorem fin.tw11336253725339858928 : True := trivial
theorem fin.tw7021976415091001641 : True := trivial
theorem fin.tw13929302177132474383 : True := trivial
theorem fin.tw12962497063298326498 : True := trivial
theorem fin.tw16656299143469825513 : True := trivial
theorem fin.tw11209750170652599755 : True := trivial
theorem fin.tw16496857829328116044 : True := trivial
theorem fin.tw9524518906428321964 : True := trivial
theorem fin.tw12292906935544458286 : True := trivial
theorem fin.tw17971676594858020690 : True := trivial
theorem fin.tw2090205506522743130 : True := trivial
theorem fin.tw6650461044873433052 : True := trivial
theorem fin.tw15373703851562958014 : True := trivial
theorem fin.tw5402249366112354979 : True := trivial
theorem fin.tw12718612220689870738 : True := trivial
theorem fin.tw17801579834951734752 : True := trivial
theorem fin.tw9544026089342320630 : True := trivial
theorem fin.tw11040825799340251285 : True := trivial
theorem fin.tw9962418760945406050 : True := trivial
theorem fin.tw3857263333814641470 : True := trivial
theorem fin.tw15989303212955285315 : True := trivial
theorem fin.tw15621619335703214680 : True := trivial
theorem fin.tw15476544859757588837 : True := trivial
theorem fin.tw8281523328739849912 : True := trivial
theorem fin.tw10393886385942881009 : True := trivial
theorem fin.tw15832999045522443761 : True := trivial
theorem fin.tw11615019562542576733 : True := trivial
theorem fin.tw895571856199123645 : True := trivial
theorem fin.tw3125960719983571848 : True := trivial
theorem fin.tw12932903420030652473 : True := trivial
theorem fin.tw6956187926921108005 : True := trivial
theorem fin.tw1963134401048803436 : True := trivial
theorem fin.tw17495881415371897999 : True := trivial
theorem fin.tw11575174756993882273 : True := trivial
theorem fin.tw8383268338085895543 : True := trivial
theorem fin.tw17512474026176034454 : True := trivial
theorem fin.tw10671828304227620169 : True := trivial
theorem fin.tw14345562132136545540 : True := trivial
theorem fin.tw5901363791540438844 : True := trivial
theorem fin.tw3456623496861543869 : True := trivial
theorem fin.tw3762306804915933987 : True := trivial
theorem fin.tw8577089030196625639 : True := trivial
theorem fin.tw7779959011674639804 : True := trivial
theorem fin.tw13066358836101814915 : True := trivial
theorem fin.tw8999559765510592377 : True := trivial
theorem fin.tw10196768644732416780 : True := trivial
theorem fin.tw11079828417688620724 : True := trivial
theorem fin.tw4443050520305737185 : True := trivial
theorem fin.tw4898026214463823928 : True := trivial
theorem fin.tw11151619158091525091 : True := trivial
theorem fin.tw9387745189664136937 : True := trivial
theorem fin.tw11277574374343807151 : True := trivial
theorem fin.tw6634307039904815820 : True := trivial
theorem fin.tw17963964198891936676 : True := trivial
theorem fin.tw17784850919643140607 : True := trivial
theorem fin.tw10895054467252067526 : True := trivial
theorem fin.tw12171577908484138354 : True := trivial
theorem fin.tw18105285910621931680 : True := trivial
theorem fin.tw1535588207084551279 : True := trivial
theorem fin.tw6846200578177281708 : True := trivial
theorem fin.tw857469055436470443 : True := trivial
theorem fin.tw5678346346211369953 : True := trivial
theorem fin.tw17164383140453370395 : True := trivial
theorem fin.tw12448240930570709186 : True := trivial
theorem fin.tw670465573061467203 : True := trivial
theorem fin.tw4868334931027891882 : True := trivial
theorem fin.tw13423622936843584764 : True := trivial
theorem fin.tw3029852977388229646 : True := trivial
theorem fin.tw2537931557510868981 : True := trivial
theorem fin.tw9445451236469955387 : True := trivial
theorem fin.tw18230178534529381785 : True := trivial
theorem fin.tw8331973007464152698 : True := trivial
theorem fin.tw8614737586434602478 : True := trivial
theorem fin.tw3810338749695602999 : True := trivial
theorem fin.tw11607805686811502034 : True := trivial
theorem fin.tw10939691994893167182 : True := trivial
theorem fin.tw12356021495744459628 : True := trivial
theorem fin.tw11466478281803324712 : True := trivial
theorem fin.tw16584127079891442865 : True := trivial
theorem fin.tw3863403702602939814 : True := trivial
theorem fin.tw15815952407149668801 : True := trivial
theorem fin.tw9509447333196811905 : True := trivial
theorem fin.tw6878024787957991413 : True := trivial
theorem fin.tw5555312102172926907 : True := trivial
theorem fin.tw3268265519342814607 : True := trivial
theorem fin.tw16401934584784274106 : True := trivial
theorem fin.tw14497727239971306367 : True := trivial
theorem fin.tw7675655780812522254 : True := trivial
theorem fin.tw1252854909445205041 : True := trivial
theorem fin.tw14560573928864763818 : True := trivial
theorem fin.tw13158425560686309300 : True := trivial
theorem fin.tw480829909506669009 : True := trivial
theorem fin.tw6380807493870290408 : True := trivial
theorem fin.tw333583748066197110 : True := trivial
theorem fin.tw1666694428299288667 : True := trivial
theorem fin.tw4329306826757983850 : True := trivial
theorem fin.tw12996517811204074000 : True := trivial
theorem fin.tw9260378047223084069 : True := trivial
theorem fin.tw10696652717036330658 : True := trivial
theorem fin.tw2775396313129547428 : True := trivial
theorem fin.tw10070804522480449196 : True := trivial
theorem fin.tw6485783843944922600 : True := trivial
theorem fin.tw7844069586390513008 : True := trivial
theorem fin.tw4570111826955561243 : True := trivial
theorem fin.tw17362494058136835672 : True := trivial
theorem fin.tw5679570950571409650 : True := trivial
theorem fin.tw1976505206021243879 : True := trivial
theorem fin.tw1390109508276135513 : True := trivial
theorem fin.tw15144710454662140524 : True := trivial
theorem fin.tw14517287926952318261 : True := trivial
theorem fin.tw7249652514872940865 : True := trivial
theorem fin.tw6567050819087999508 : True := trivial
theorem fin.tw4613182775407389354 : True := trivial
theorem fin.tw11414674201277728305 : True := trivial
theorem fin.tw8896352889252549814 : True := trivial
theorem fin.tw11953781441336167498 : True := trivial
theorem fin.tw18164189302063226315 : True := trivial
theorem fin.tw8126443298418566877 : True := trivial
theorem fin.tw16570786720924097770 : True := trivial
theorem fin.tw1014637456484912126 : True := trivial
theorem fin.tw5634151482396758240 : True := trivial
theorem fin.tw10925335251469727208 : True := trivial
theorem fin.tw2866121171748074186 : True := trivial
theorem fin.tw7929640520542984453 : True := trivial
theorem fin.tw9806666330580929782 : True := trivial
theorem fin.tw884059145510264010 : True := trivial
theorem fin.tw10007411396671696613 : True := trivial
theorem fin.tw3004984022683251337 : True := trivial
theorem fin.tw9610726530385051774 : True := trivial
theorem fin.tw1613116972386908190 : True := trivial
theorem fin.tw8399098705505230059 : True := trivial
theorem fin.tw1450881378762983150 : True := trivial
theorem fin.tw16269368082590959529 : True := trivial
theorem fin.tw5897612983314593646 : True := trivial
theorem fin.tw15427496739750414555 : True := trivial
theorem fin.tw5776136370200156792 : True := trivial
theorem fin.tw452842511749404161 : True := trivial
theorem fin.tw8668149382578428375 : True := trivial
theorem fin.tw7130589087949165531 : True := trivial
theorem fin.tw4754365596532378047 : True := trivial
theorem fin.tw16285329926789087883 : True := trivial
theorem fin.tw4788878847521262168 : True := trivial
theorem fin.tw13467322939085005891 : True := trivial
theorem fin.tw10875463905939285979 : True := trivial
theorem fin.tw14245171486683049214 : True := trivial
theorem fin.tw10242451874928486539 : True := trivial
theorem fin.tw1887099378405440850 : True := trivial
theorem fin.tw12869217540446652890 : True := trivial
theorem fin.tw1819255440876223710 : True := trivial
theorem fin.tw17197158672614542318 : True := trivial
theorem fin.tw216489041496292469 : True := trivial
theorem fin.tw11273041486466551846 : True := trivial
theorem fin.tw6455845175183424153 : True := trivial
theorem fin.tw6214469639950668122 : True := trivial
theorem fin.tw12876116671307685997 : True := trivial
theorem ns_law (P : Params) : nsIn (KP P) mainGlobals "law" = some (some (.ref 483)) := by kernel_rfl
set_option Elab.async true in
theorem fin : PySem.Challenge.rw_or0063_01.Holds := by
  w_on; o_law
  o_head (kHook grab.heap_1 adrs (fun _ => by kernel_rfl))
  (case hw => w_witness2)
  intro w s₀ s₁ mg mb G Y fa o pm cd doc dV kV ho hd hcd hD hmg hg args vals as hpre hlay hrd hwl hlo
  have KX := kIn_of Y
  refine Ground.open G ?_
  intro T B D TE TW
  have e := mg_of KX T.g (ns_law w.params)
  have e2 : fa = 483 := by
    have := hmg.symm.trans e
    simpa using this
  subst e2
  clear hd hD hcd ho hmg
  wrow_args hpre hlay hrd hwl hlo
  rename s₁.heap.IsList _ _ => hL
  rename IntsAre _ _ => hI
  rename ¬ _ < _ => hn
  obtain ⟨ob, hob, hcl, nn, hdt⟩ := hL
  refine fn_top (n := 1999) (d := 19) ⟨KX, T⟩ (cls_ok _) (exc_all _) rfl rfl room_top (law_ok w.params _ (by omega)) (VRs.cons ⟨_, ob, _, nn, rfl, hob, hcl, hdt, VRs.ints hI⟩ VRs.nil) fun h' tk keep => ?_
  refine ⟨.inl ⟨_, _, [], rfl, raisesW_false ?_, .bool true, ?_, unshared_nil⟩, .of_keep keep, rfl, .of_eq hg⟩
  · wrow_none_raised
  · wrow_post
end Mine
end

end
theorem PySem.Challenge.cw_or0063_01_holds : PySem.Challenge.rw_or0063_01.Holds :=
  Mine.fin
