import PyProof.Rows.All
import Wide.All
import OpenK.AllK
import Wide.FinOn
import HandS.Base
import HandS.WordsExc
import HandS.Wide
import HandS.Lambda
import HandS.TupAny
import HandS.TupMul
import PyProof.StrBlock2
import HandS.TupLe
import HandS.Deep
import HandS.IsInst
import HandS.Style
import KE.SortData
import KE.DataCmp
import HandS.Walk
import HandS.Zip
import HandS.Conv
import KE.GoesEnum
import HandS.Small
import HandS.Nested
import HandS.SortKw
import HandS.CallLocal
import HandS.DictComp
import HandS.EndTab
import KE.KNestM
import KE.KTupSum
import HandS.ExcInit
import HandS.ExcValue
import HandS.ExcIs
import HandS.ExcField
import KE.KExcSuper
import HandS.SetFor
import HandS.HotCalls
import KE.KExcIs
import PyProof.ReprRoads
import KE.KDflt
import KE.SortLaws
import PySem.Challenge.RW_ropeloft_k00_errors_tell_their_fields
set_option Elab.async false
set_option linter.all false
set_option maxRecDepth 100000
namespace PD
open PySem PySem.Spec PyProof.Rows L2

inductive D where
  | non | bl (b : Bool) | int (i : Int) | str (s : Str)
  | tup (xs : List D) | lst (xs : List D)
  | dic (ks : List Key) (vs : List D) | dit (ks : List (List Key)) (vs : List D)
  | ins (c : Str) (ns : List Str) (vs : List D)
  | fn (f : Str)
  /-- the script -/
  | scr (xs : List Int)
  deriving Inhabited

structure Zt where
  K : PySem.W.Frag
  mg : Str → Option Value
  T : List (Addr × Str)

def KTup (K : PySem.W.Frag) (a : Addr) (xs : List V) : Prop :=
  ∃ (o : Obj) (its : Array Value) (n : Nat), K.lookup a = some o ∧ o.cls = .type "tuple" ∧ o.data = .seq its n ∧ its.size ≤ sizeLine ∧ Vals xs its.toList
def TupR (K : PySem.W.Frag) (X : Addr → Prop) (H : Hp) (a : Addr) (xs : List V) : Prop := (¬ X a ∧ H a = some (.tup xs)) ∨ KTup K a xs
theorem TupR.sq {K : PySem.W.Frag} {X : Addr → Prop} {H : Hp} {a : Addr} {xs : List V} (h : TupR K X H a xs) : SqT K H a xs := h.elim (fun h => .inl (.inl h.2)) .inr

def KLst (K : PySem.W.Frag) (a : Addr) (xs : List V) : Prop :=
  ∃ (o : Obj) (its : Array Value) (n : Nat), K.lookup a = some o ∧ o.cls = .type "list" ∧ o.dict = none ∧ o.data = .seq its n ∧ its.size ≤ sizeLine ∧ Vals xs its.toList
def SclR (K : PySem.W.Frag) (X : Addr → Prop) (H : Hp) (a : Addr) (xs : List V) : Prop := (¬ X a ∧ Rd H a (.lst xs)) ∨ KLst K a xs
theorem SclR.sq {K : PySem.W.Frag} {X : Addr → Prop} {H : Hp} {a : Addr} {xs : List V} (h : SclR K X H a xs) : SqL K H a xs := h.elim (fun h => .inl h.2) .inr

mutual
def Rep (Z : Zt) (X : Addr → Prop) (H : Hp) : D → V → Prop
  | .non, v => v = .non
  | .bl b, v => v = .bl b
  | .int i, v => v = .int i
  | .str s, v => v = .str s
  | .tup ds, v => ∃ a vs, v = .ref a ∧ TupR Z.K X H a vs ∧ RepL Z X H ds vs
  | .lst ds, v => ∃ a vs, v = .ref a ∧ ¬ X a ∧ H a = some (.lst vs) ∧ RepL Z X H ds vs
  | .dic ks ds, v => ∃ a vs, v = .ref a ∧ ¬ X a ∧ ks.length = vs.length ∧ H a = some (.dK (ks.zip vs)) ∧ RepL Z X H ds vs
  | .dit ks ds, v => ∃ a vs, v = .ref a ∧ ¬ X a ∧ ks.length = vs.length ∧ H a = some (.dT (ks.zip vs)) ∧ RepL Z X H ds vs
  | .ins c ns ds, v => ∃ a C dx vs, v = .ref a ∧ ¬ X a ∧ ns.length = vs.length ∧ Z.mg c = some (.ref C) ∧ H a = some (.ins C dx (ns.zip vs)) ∧ RepL Z X H ds vs
  | .fn f, v => ∃ a, v = .ref a ∧ Z.mg f = some (.ref a)
  | .scr xs, v => ∃ a, v = .ref a ∧ SclR Z.K X H a (xs.map V.int)
def RepL (Z : Zt) (X : Addr → Prop) (H : Hp) : List D → List V → Prop
  | [], vs => vs = []
  | d :: ds, vs => ∃ v vr, vs = v :: vr ∧ Rep Z X H d v ∧ RepL Z X H ds vr
end

structure Fw (Z : Zt) (X : Addr → Prop) (H : Hp) (X' : Addr → Prop) (H' : Hp) : Prop where
  keep : ∀ a o, H a = some o → ¬ X a → (∀ ps, o ≠ .tbl ps) → H' a = some o
  ktbl : ∀ a ps, H a = some (.tbl ps) → ∃ qs, H' a = some (.tbl qs)
  new : ∀ a, X' a → X a ∨ H a = none
  tabs : LamX.Tabs Z.T H → LamX.Tabs Z.T H'
theorem Fw.refl {Z : Zt} {X : Addr → Prop} {H : Hp} : Fw Z X H X H := ⟨fun _ _ h _ _ => h, fun _ ps h => ⟨ps, h⟩, fun _ h => .inl h, fun h => h⟩
theorem Fw.trans {Z : Zt} {X X1 X2 : Addr → Prop} {H H1 H2 : Hp} (f : Fw Z X H X1 H1) (g : Fw Z X1 H1 X2 H2) : Fw Z X H X2 H2 := by
  refine ⟨fun a o h n t => g.keep a o (f.keep a o h n t) (fun h1 => ?_) t, fun a ps h => ?_, fun a h2 => ?_, fun h => g.tabs (f.tabs h)⟩
  · rcases f.new a h1 with q | q
    · exact n q
    · rw [q] at h; cases h
  · obtain ⟨qs, e⟩ := f.ktbl a ps h
    exact g.ktbl a qs e
  · rcases g.new a h2 with q | q
    · exact f.new a q
    · by_cases hx : X a
      · exact .inl hx
      · cases e : H a with
        | none => exact .inr rfl
        | some o =>
          by_cases ht : ∃ ps, o = .tbl ps
          · obtain ⟨ps, rfl⟩ := ht
            obtain ⟨qs, e2⟩ := f.ktbl a ps e
            rw [e2] at q; cases q
          · rw [f.keep a o e hx (fun ps z => ht ⟨ps, z⟩)] at q; cases q
theorem Fw.same {Z : Zt} {X : Addr → Prop} {H H' : Hp} (s : Same H H') : Fw Z X H X H' :=
  ⟨fun a o h _ _ => s a o h, fun a ps h => ⟨ps, s a _ h⟩, fun _ h => .inl h, fun h => h.ext s⟩
theorem Fw.less {Z : Zt} {X X1 X2 : Addr → Prop} {H H' : Hp} (f : Fw Z X H X1 H') (h : ∀ a, X2 a → X1 a) : Fw Z X H X2 H' := ⟨f.keep, f.ktbl, fun a q => f.new a (h a q), f.tabs⟩

theorem at_keep {Z : Zt} {X X' : Addr → Prop} {H H' : Hp} (f : Fw Z X H X' H') {a : Addr} {u : HO} (n : ¬ X a) (h : H a = some u) (ht : ∀ ps, u ≠ .tbl ps) : H' a = some u ∧ ¬ X' a := by
  refine ⟨f.keep a u h n ht, fun q => ?_⟩
  rcases f.new a q with q | q
  · exact n q
  · rw [q] at h; cases h
theorem rd_keep {Z : Zt} {X X' : Addr → Prop} {H H' : Hp} (f : Fw Z X H X' H') {a : Addr} {u : HO} (n : ¬ X a) (h : Rd H a u) (ht : ∀ ps, u ≠ .tbl ps) : Rd H' a u ∧ ¬ X' a := by
  have ne : ∀ o, H a = some o → ¬ X' a := fun o e q => by
    rcases f.new a q with q | q
    · exact n q
    · rw [q] at e; cases e
  rcases h with h | ⟨o, h⟩
  · exact ⟨.inl (f.keep a u h n ht), ne _ h⟩
  · exact ⟨.inr ⟨o, f.keep a _ h n (fun ps z => by cases z)⟩, ne _ h⟩

mutual
theorem Rep.mono {Z : Zt} {X X' : Addr → Prop} {H H' : Hp} (f : Fw Z X H X' H') : ∀ (d : D) (v : V), Rep Z X H d v → Rep Z X' H' d v
  | .non, _, h => by simpa only [Rep] using h
  | .bl _, _, h => by simpa only [Rep] using h
  | .int _, _, h => by simpa only [Rep] using h
  | .str _, _, h => by simpa only [Rep] using h
  | .tup ds, v, h => by
    simp only [Rep] at h ⊢
    obtain ⟨a, vs, e, t, r⟩ := h
    refine ⟨a, vs, e, ?_, RepL.mono f ds vs r⟩
    rcases t with ⟨n, t⟩ | t
    · exact .inl ((at_keep f n t (fun ps z => by cases z)).symm)
    · exact .inr t
  | .lst ds, v, h => by
    simp only [Rep] at h ⊢
    obtain ⟨a, vs, e, n, t, r⟩ := h
    have q := at_keep f n t (fun ps z => by cases z)
    exact ⟨a, vs, e, q.2, q.1, RepL.mono f ds vs r⟩
  | .dic ks ds, v, h => by
    simp only [Rep] at h ⊢
    obtain ⟨a, vs, e, n, hl, t, r⟩ := h
    have q := at_keep f n t (fun ps z => by cases z)
    exact ⟨a, vs, e, q.2, hl, q.1, RepL.mono f ds vs r⟩
  | .dit ks ds, v, h => by
    simp only [Rep] at h ⊢
    obtain ⟨a, vs, e, n, hl, t, r⟩ := h
    have q := at_keep f n t (fun ps z => by cases z)
    exact ⟨a, vs, e, q.2, hl, q.1, RepL.mono f ds vs r⟩
  | .ins c ns ds, v, h => by
    simp only [Rep] at h ⊢
    obtain ⟨a, C, dx, vs, e, n, hl, hm, t, r⟩ := h
    refine ⟨a, C, dx, vs, e, fun q => ?_, hl, hm, f.keep a _ t n (fun ps z => by cases z), RepL.mono f ds vs r⟩
    rcases f.new a q with q | q
    · exact n q
    · rw [q] at t; cases t
  | .fn _, _, h => by simpa only [Rep] using h
  | .scr xs, v, h => by
    simp only [Rep] at h ⊢
    obtain ⟨a, e, t⟩ := h
    refine ⟨a, e, ?_⟩
    rcases t with ⟨n, t⟩ | t
    · exact .inl (rd_keep f n t (fun ps z => by cases z)).symm
    · exact .inr t
theorem RepL.mono {Z : Zt} {X X' : Addr → Prop} {H H' : Hp} (f : Fw Z X H X' H') : ∀ (ds : List D) (vs : List V), RepL Z X H ds vs → RepL Z X' H' ds vs
  | [], _, h => by simpa only [RepL] using h
  | d :: ds, vs, h => by
    simp only [RepL] at h ⊢
    obtain ⟨v, vr, e, r, rr⟩ := h
    exact ⟨v, vr, e, Rep.mono f d v r, RepL.mono f ds vr rr⟩
end
end PD

set_option linter.all false
set_option maxRecDepth 100000
namespace PD
open PySem PySem.Spec PyProof.Rows L2

inductive Fd where
  | d (x : D) | l (xs : List D)
inductive O where
  | lst (ds : List D) | dic (ks : List Key) (vs : List D) | dit (ks : List (List Key)) (vs : List D)
  | ins (c : Str) (ns : List Str) (fs : List Fd)
  | dls (ks : List Key) (fs : List Fd)
def Fd.toD : Fd → D
  | .d x => x
  | .l xs => .lst xs
def O.toD : O → D
  | .lst ds => .lst ds
  | .dic ks vs => .dic ks vs
  | .dit ks vs => .dit ks vs
  | .ins c ns fs => .ins c ns (fs.map Fd.toD)
  | .dls ks fs => .dic ks (fs.map Fd.toD)
def O.seen : O → Option D
  | .lst ds => some (.lst ds)
  | .dic ks vs => some (.dic ks vs)
  | .dit ks vs => some (.dit ks vs)
  | .ins c ns fs => some (.ins c ns (fs.map Fd.toD))
  | .dls _ _ => none

def FdL (Z : Zt) (X : Addr → Prop) (H : Hp) : List Fd → List V → List Addr → Prop
  | [], vs, As => vs = [] ∧ As = []
  | .d x :: fs, vs, As => ∃ v vr, vs = v :: vr ∧ Rep Z X H x v ∧ FdL Z X H fs vr As
  | .l ds :: fs, vs, As => ∃ a vr ws Ar, vs = .ref a :: vr ∧ As = a :: Ar ∧ H a = some (.lst ws) ∧ RepL Z X H ds ws ∧ FdL Z X H fs vr Ar
def OwnRep (Z : Zt) (X : Addr → Prop) (H : Hp) : O → V → List Addr → Prop
  | .lst ds, v, L => ∃ a vs, v = .ref a ∧ L = [a] ∧ H a = some (.lst vs) ∧ RepL Z X H ds vs
  | .dic ks ds, v, L => ∃ a vs, v = .ref a ∧ L = [a] ∧ ks.length = vs.length ∧ H a = some (.dK (ks.zip vs)) ∧ RepL Z X H ds vs
  | .dit ks ds, v, L => ∃ a vs, v = .ref a ∧ L = [a] ∧ ks.length = vs.length ∧ H a = some (.dT (ks.zip vs)) ∧ RepL Z X H ds vs
  | .ins c ns fs, v, L => ∃ a C dx vs As, v = .ref a ∧ L = a :: As ∧ ns.length = vs.length ∧ Z.mg c = some (.ref C) ∧ H a = some (.ins C dx (ns.zip vs)) ∧ FdL Z X H fs vs As
  | .dls ks fs, v, L => ∃ a vs As, v = .ref a ∧ L = a :: As ∧ ks.length = vs.length ∧ H a = some (.dK (ks.zip vs)) ∧ FdL Z X H fs vs As

theorem FdL.mono {Z : Zt} {X X' : Addr → Prop} {H H' : Hp} (f : Fw Z X H X' H') : ∀ (fs : List Fd) (vs : List V) (As : List Addr), (∀ a ∈ As, H' a = H a) → FdL Z X H fs vs As → FdL Z X' H' fs vs As
  | [], _, _, _, h => h
  | .d x :: fs, vs, As, k, h => by
    obtain ⟨v, vr, e, r, h⟩ := h
    exact ⟨v, vr, e, r.mono f, FdL.mono f fs vr As k h⟩
  | .l ds :: fs, vs, As, k, h => by
    obtain ⟨a, vr, ws, Ar, e, e2, e3, r, h⟩ := h
    subst e2
    exact ⟨a, vr, ws, Ar, e, rfl, by rw [k a List.mem_cons_self]; exact e3, r.mono f, FdL.mono f fs vr Ar (fun b hb => k b (List.mem_cons_of_mem _ hb)) h⟩
theorem OwnRep.mono {Z : Zt} {X X' : Addr → Prop} {H H' : Hp} (f : Fw Z X H X' H') : ∀ {o : O} {v : V} {L : List Addr}, (∀ a ∈ L, H' a = H a) → OwnRep Z X H o v L → OwnRep Z X' H' o v L
  | .lst ds, v, L, k, h => by
    obtain ⟨a, vs, e, rfl, e3, r⟩ := h
    exact ⟨a, vs, e, rfl, by rw [k a (by simp)]; exact e3, r.mono f⟩
  | .dic ks ds, v, L, k, h => by
    obtain ⟨a, vs, e, rfl, hl, e3, r⟩ := h
    exact ⟨a, vs, e, rfl, hl, by rw [k a (by simp)]; exact e3, r.mono f⟩
  | .dit ks ds, v, L, k, h => by
    obtain ⟨a, vs, e, rfl, hl, e3, r⟩ := h
    exact ⟨a, vs, e, rfl, hl, by rw [k a (by simp)]; exact e3, r.mono f⟩
  | .ins c ns fs, v, L, k, h => by
    obtain ⟨a, C, dx, vs, As, e, rfl, hl, hm, e3, r⟩ := h
    exact ⟨a, C, dx, vs, As, e, rfl, hl, hm, by rw [k a (by simp)]; exact e3, r.mono f _ _ _ (fun b hb => k b (List.mem_cons_of_mem _ hb))⟩
  | .dls ks fs, v, L, k, h => by
    obtain ⟨a, vs, As, e, rfl, hl, e3, r⟩ := h
    exact ⟨a, vs, As, e, rfl, hl, by rw [k a (by simp)]; exact e3, r.mono f _ _ _ (fun b hb => k b (List.mem_cons_of_mem _ hb))⟩
theorem FdL.there {Z : Zt} {X : Addr → Prop} {H : Hp} : ∀ {fs : List Fd} {vs : List V} {As : List Addr}, FdL Z X H fs vs As → ∀ a ∈ As, H a ≠ none
  | [], _, _, h, a, ha => by rw [h.2] at ha; cases ha
  | .d x :: fs, vs, As, h, a, ha => by
    obtain ⟨v, vr, e, r, h⟩ := h
    exact h.there a ha
  | .l ds :: fs, vs, As, h, a, ha => by
    obtain ⟨b, vr, ws, Ar, e, e2, e3, r, h⟩ := h
    subst e2
    rcases List.mem_cons.mp ha with rfl | ha
    · rw [e3]; simp
    · exact h.there a ha
theorem OwnRep.there {Z : Zt} {X : Addr → Prop} {H : Hp} : ∀ {o : O} {v : V} {L : List Addr}, OwnRep Z X H o v L → ∀ a ∈ L, H a ≠ none
  | .lst ds, v, L, h, b, hb => by
    obtain ⟨a, vs, e, rfl, e3, r⟩ := h
    have := List.mem_singleton.mp hb; subst this; rw [e3]; simp
  | .dic ks ds, v, L, h, b, hb => by
    obtain ⟨a, vs, e, rfl, hl, e3, r⟩ := h
    have := List.mem_singleton.mp hb; subst this; rw [e3]; simp
  | .dit ks ds, v, L, h, b, hb => by
    obtain ⟨a, vs, e, rfl, hl, e3, r⟩ := h
    have := List.mem_singleton.mp hb; subst this; rw [e3]; simp
  | .ins c ns fs, v, L, h, b, hb => by
    obtain ⟨a, C, dx, vs, As, e, rfl, hl, hm, e3, r⟩ := h
    rcases List.mem_cons.mp hb with rfl | hb
    · rw [e3]; simp
    · exact r.there b hb
  | .dls ks fs, v, L, h, b, hb => by
    obtain ⟨a, vs, As, e, rfl, hl, e3, r⟩ := h
    rcases List.mem_cons.mp hb with rfl | hb
    · rw [e3]; simp
    · exact r.there b hb

theorem OwnRep.noext {Z : Zt} {X : Addr → Prop} {H : Hp} {o : O} {v : V} {L : List Addr} (r : OwnRep Z X H o v L) {a : Addr} (hj : a ∈ L) {φ : Heap → Prop} (h : H a = some (.ext φ)) : False := by
  have fdl : ∀ (fs : List Fd) (vs : List V) (As : List Addr), FdL Z X H fs vs As → a ∉ As := by
    intro fs
    induction fs with
    | nil => intro vs As h h2; rw [h.2] at h2; cases h2
    | cons f fs ih =>
      intro vs As h2 h3
      cases f with
      | d x =>
        obtain ⟨_, vr, _, _, h2⟩ := h2
        exact ih vr As h2 h3
      | l ds =>
        obtain ⟨b, vr, ws, Ar, _, e2, e3, _, h2⟩ := h2
        subst e2
        rcases List.mem_cons.mp h3 with z | z
        · rw [z, e3] at h; cases h
        · exact ih vr Ar h2 z
  cases o with
  | lst ds =>
    obtain ⟨b, vs, _, e2, e3, _⟩ := r
    rw [e2] at hj
    rw [List.mem_singleton.mp hj, e3] at h; cases h
  | dic ks ds =>
    obtain ⟨b, vs, _, e2, _, e3, _⟩ := r
    rw [e2] at hj
    rw [List.mem_singleton.mp hj, e3] at h; cases h
  | dit ks ds =>
    obtain ⟨b, vs, _, e2, _, e3, _⟩ := r
    rw [e2] at hj
    rw [List.mem_singleton.mp hj, e3] at h; cases h
  | ins c ns fs =>
    obtain ⟨b, C, dx, vs, As, _, e2, _, _, e3, r⟩ := r
    rw [e2] at hj
    rcases List.mem_cons.mp hj with z | z
    · rw [z, e3] at h; cases h
    · exact fdl _ _ _ r z
  | dls ks fs =>
    obtain ⟨b, vs, As, _, e2, _, e3, r⟩ := r
    rw [e2] at hj
    rcases List.mem_cons.mp hj with z | z
    · rw [z, e3] at h; cases h
    · exact fdl _ _ _ r z
def Ext (o : HO) : Prop := ∃ φ, o = .ext φ
inductive Sl where
  | no | fz (d : D) | ow (o : O)
abbrev S := List Sl
def SloR (Z : Zt) (X : Addr → Prop) (H : Hp) : Sl → Option (Option V) → List Addr → Prop
  | .no, _, L => L = []
  | .fz d, ov, L => L = [] ∧ ∃ v, ov = some (some v) ∧ Rep Z X H d v
  | .ow o, ov, L => ∃ v, ov = some (some v) ∧ OwnRep Z X H o v L
theorem SloR.mono {Z : Zt} {X X' : Addr → Prop} {H H' : Hp} (f : Fw Z X H X' H') : ∀ {x : Sl} {ov : Option (Option V)} {L : List Addr}, (∀ a ∈ L, H' a = H a) → SloR Z X H x ov L → SloR Z X' H' x ov L
  | .no, _, _, _, h => h
  | .fz d, ov, L, k, h => by
    obtain ⟨e, v, e2, r⟩ := h
    exact ⟨e, v, e2, r.mono f⟩
  | .ow o, ov, L, k, h => by
    obtain ⟨v, e, r⟩ := h
    exact ⟨v, e, r.mono f k⟩

structure Gm where
  X0 : Addr → Prop
  H0 : Hp
  B : List Addr
  bor : Nat → Option V
  E : WX
  /-- objects that stand as they are -/
  pin : Addr → HO → Prop := fun _ _ => False
def Gm.X (Γ : Gm) (Lv : Nat → List Addr) : Addr → Prop := fun a => Γ.X0 a ∨ ∃ i, a ∈ Lv i

structure Rl (Z : Zt) (Γ : Gm) (s : S) (Lv : Nat → List Addr) (σ : L2.St) (H : Hp) : Prop where
  len : s.length = σ.length
  sl : ∀ (i : Nat) x, s[i]? = some x → SloR Z (Γ.X Lv) H x σ[i]? (Lv i)
  out : ∀ i, s.length ≤ i → Lv i = []
  nd : ∀ i, (Lv i).Nodup
  dj : ∀ i j a, a ∈ Lv i → a ∈ Lv j → i = j
  lvb : ∀ i a, a ∈ Lv i → (i = 0 ∧ a ∈ Γ.B) ∨ (Γ.H0 a = none ∧ ¬ Γ.X0 a)
  keep : ∀ a o, Γ.H0 a = some o → a ∉ Γ.B → (∀ ps, o ≠ .tbl ps) → H a = some o
  ktbl : ∀ a ps, Γ.H0 a = some (.tbl ps) → ∃ qs, H a = some (.tbl qs)
  st0 : ∀ a, Γ.H0 a ≠ none → H a ≠ none
  x0 : ∀ a, Γ.X0 a → H a ≠ none
  bx : ∀ a ∈ Γ.B, Γ.X0 a
  tb : LamX.Tabs Z.T H
  bor : ∀ i v, Γ.bor i = some v → σ[i]? = some (some v)
  pn : ∀ a o, Γ.pin a o → (Γ.X0 a ∨ Ext o) ∧ (a ∉ Γ.B ∨ Ext o) ∧ (∀ ps, o ≠ .tbl ps) ∧ H a = some o

section
variable {Z : Zt} {Γ : Gm} {s : S} {Lv : Nat → List Addr} {σ : L2.St} {H H' : Hp}

theorem Rl.there (R : Rl Z Γ s Lv σ H) {i : Nat} {a : Addr} (h : a ∈ Lv i) : H a ≠ none := by
  by_cases hi : i < s.length
  · have q := R.sl i s[i] (List.getElem?_eq_getElem hi)
    generalize hx : s[i] = x at q
    cases x with
    | no => rw [show Lv i = [] from q] at h; cases h
    | fz d => rw [q.1] at h; cases h
    | ow o =>
      obtain ⟨v, e, r⟩ := q
      exact r.there a h
  · rw [R.out i (Nat.le_of_not_lt hi)] at h; cases h
theorem Rl.xs (R : Rl Z Γ s Lv σ H) {a : Addr} (h : Γ.X Lv a) : H a ≠ none := by
  rcases h with h | ⟨i, h⟩
  · exact R.x0 a h
  · exact R.there h
theorem same_st {a : Addr} (e : Same H H') (h : H a ≠ none) : H' a ≠ none := fun q => by
  cases p : H a with
  | none => exact h p
  | some o => rw [e a o p] at q; cases q
theorem Rl.same (R : Rl Z Γ s Lv σ H) (e : Same H H') : Rl Z Γ s Lv σ H' := by
  refine ⟨R.len, fun i x hx => (R.sl i x hx).mono (Fw.same e) fun a ha => ?_, R.out, R.nd, R.dj, R.lvb, fun a o h n t => e a o (R.keep a o h n t), fun a ps h => ?_, fun a h => same_st e (R.st0 a h), fun a h => same_st e (R.x0 a h), R.bx, R.tb.ext e, R.bor, fun a o h => let ⟨p1, p2, p3, p4⟩ := R.pn a o h; ⟨p1, p2, p3, e a o p4⟩⟩
  · have h := R.there ha
    cases q : H a with
    | none => exact absurd q h
    | some o => exact e a o q
  · obtain ⟨qs, h⟩ := R.ktbl a ps h
    exact ⟨qs, e a _ h⟩
theorem Rl.fz (R : Rl Z Γ s Lv σ H) {i : Nat} {d : D} (h : s[i]? = some (.fz d)) : ∃ v, σ[i]? = some (some v) ∧ Rep Z (Γ.X Lv) H d v := (R.sl i _ h).2
theorem Rl.ow (R : Rl Z Γ s Lv σ H) {i : Nat} {o : O} (h : s[i]? = some (.ow o)) : ∃ v, σ[i]? = some (some v) ∧ OwnRep Z (Γ.X Lv) H o v (Lv i) := R.sl i _ h

theorem Rl.notbl (R : Rl Z Γ s Lv σ H) {j : Nat} {a : Addr} (hj : a ∈ Lv j) {ps : Array Value} (h : H a = some (.tbl ps)) : False := by
  have hj' : j < s.length := by
    refine Nat.lt_of_not_le fun q => ?_
    rw [R.out j q] at hj; cases hj
  have q := R.sl j s[j] (List.getElem?_eq_getElem hj')
  generalize s[j] = y at q
  cases y with
  | no => rw [show Lv j = [] from q] at hj; cases hj
  | fz d => rw [q.1] at hj; cases hj
  | ow o =>
    obtain ⟨v, e, r⟩ := q
    have fdl : ∀ (fs : List Fd) (vs : List V) (As : List Addr), FdL Z (Γ.X Lv) H fs vs As → a ∉ As := by
      intro fs
      induction fs with
      | nil => intro vs As h h2; rw [h.2] at h2; cases h2
      | cons f fs ih =>
        intro vs As h2 h3
        cases f with
        | d x =>
          obtain ⟨_, vr, _, _, h2⟩ := h2
          exact ih vr As h2 h3
        | l ds =>
          obtain ⟨b, vr, ws, Ar, _, e2, e3, _, h2⟩ := h2
          subst e2
          rcases List.mem_cons.mp h3 with z | z
          · rw [z, e3] at h; cases h
          · exact ih vr Ar h2 z
    cases o with
    | lst ds =>
      obtain ⟨b, vs, _, e2, e3, _⟩ := r
      rw [e2] at hj
      rw [List.mem_singleton.mp hj, e3] at h; cases h
    | dic ks ds =>
      obtain ⟨b, vs, _, e2, _, e3, _⟩ := r
      rw [e2] at hj
      rw [List.mem_singleton.mp hj, e3] at h; cases h
    | dit ks ds =>
      obtain ⟨b, vs, _, e2, _, e3, _⟩ := r
      rw [e2] at hj
      rw [List.mem_singleton.mp hj, e3] at h; cases h
    | ins c ns fs =>
      obtain ⟨b, C, dx, vs, As, _, e2, _, _, e3, r⟩ := r
      rw [e2] at hj
      rcases List.mem_cons.mp hj with z | z
      · rw [z, e3] at h; cases h
      · exact fdl _ _ _ r z
    | dls ks fs =>
      obtain ⟨b, vs, As, _, e2, _, e3, r⟩ := r
      rw [e2] at hj
      rcases List.mem_cons.mp hj with z | z
      · rw [z, e3] at h; cases h
      · exact fdl _ _ _ r z
theorem Rl.noext (R : Rl Z Γ s Lv σ H) {j : Nat} {a : Addr} (hj : a ∈ Lv j) {φ : Heap → Prop} (h : H a = some (.ext φ)) : False := by
  have hj' : j < s.length := by
    refine Nat.lt_of_not_le fun q => ?_
    rw [R.out j q] at hj; cases hj
  have q := R.sl j s[j] (List.getElem?_eq_getElem hj')
  generalize s[j] = y at q
  cases y with
  | no => rw [show Lv j = [] from q] at hj; cases hj
  | fz d => rw [q.1] at hj; cases hj
  | ow o =>
    obtain ⟨v, e, r⟩ := q
    exact r.noext hj h
def setL (Lv : Nat → List Addr) (i : Nat) (L : List Addr) : Nat → List Addr := fun j => if j = i then L else Lv j
theorem setL_same {i : Nat} {L : List Addr} : setL Lv i L i = L := by unfold setL; rw [if_pos rfl]
theorem setL_ne {i j : Nat} {L : List Addr} (h : j ≠ i) : setL Lv i L j = Lv j := by unfold setL; rw [if_neg h]
theorem setL_self {i : Nat} : setL Lv i (Lv i) = Lv := by funext j; unfold setL; split <;> simp_all

theorem Rl.put (R : Rl Z Γ s Lv σ H) {i : Nat} {x : Sl} {σ' : L2.St} {L : List Addr} (hi : i < s.length) (hlen : σ'.length = σ.length) (hσ : ∀ j : Nat, j ≠ i → σ'[j]? = σ[j]?) (hb : ∀ i v, Γ.bor i = some v → σ'[i]? = some (some v))
    (kp : ∀ a o, H a = some o → a ∉ Lv i → (∀ ps, o ≠ .tbl ps) → H' a = some o) (kt : ∀ a ps, H a = some (.tbl ps) → ∃ qs, H' a = some (.tbl qs)) (tb : LamX.Tabs Z.T H → LamX.Tabs Z.T H')
    (nd : L.Nodup) (nw : ∀ a ∈ L, a ∈ Lv i ∨ H a = none) (st : ∀ a, H a ≠ none → H' a ≠ none)
    (r : SloR Z (Γ.X (setL Lv i L)) H' x σ'[i]? L) : Rl Z Γ (s.set i x) (setL Lv i L) σ' H' ∧ Fw Z (Γ.X Lv) H (Γ.X (setL Lv i L)) H' := by
  have h0 : ∀ a, H a = none → Γ.H0 a = none := fun a h => by
    cases q : Γ.H0 a with
    | none => rfl
    | some o => exact absurd h (R.st0 a (by rw [q]; simp))
  have F : Fw Z (Γ.X Lv) H (Γ.X (setL Lv i L)) H' := by
    refine ⟨fun a o h n t => kp a o h (fun q => n (.inr ⟨i, q⟩)) t, kt, fun a h => ?_, tb⟩
    rcases h with h | ⟨j, h⟩
    · exact .inl (.inl h)
    · by_cases hj : j = i
      · subst hj
        rw [setL_same] at h
        rcases nw a h with q | q
        · exact .inl (.inr ⟨j, q⟩)
        · exact .inr q
      · rw [setL_ne hj] at h
        exact .inl (.inr ⟨j, h⟩)
  refine ⟨⟨by rw [List.length_set, hlen]; exact R.len, fun j y hy => ?_, fun j hj => ?_, fun j => ?_, fun j k a hj hk => ?_, fun j a hj => ?_, fun a o h n t => ?_, fun a ps h => ?_, fun a h => st a (R.st0 a h), fun a h => st a (R.x0 a h), R.bx, tb R.tb, hb, fun a o h => ?_⟩, F⟩
  · by_cases hj : j = i
    · subst hj
      rw [List.getElem?_set_self hi] at hy
      cases hy
      rw [setL_same]
      exact r
    · rw [List.getElem?_set_ne (Ne.symm hj)] at hy
      rw [setL_ne hj, hσ j hj]
      refine (R.sl j y hy).mono F fun a ha => ?_
      have h := R.there ha
      cases q : H a with
      | none => exact absurd q h
      | some o => exact kp a o q (fun z => hj (R.dj j i a ha z)) (fun ps z => R.notbl ha (by rw [q, z]))
  · rw [List.length_set] at hj
    have hne : j ≠ i := by omega
    rw [setL_ne hne]
    exact R.out j hj
  · by_cases hj : j = i
    · subst hj; rw [setL_same]; exact nd
    · rw [setL_ne hj]; exact R.nd j
  · by_cases hj1 : j = i
    · by_cases hk1 : k = i
      · rw [hj1, hk1]
      · rw [setL_ne hk1] at hk
        rw [hj1, setL_same] at hj
        rcases nw a hj with q | q
        · exact absurd (R.dj k i a hk q) hk1
        · exact absurd q (R.there hk)
    · rw [setL_ne hj1] at hj
      by_cases hk1 : k = i
      · rw [hk1, setL_same] at hk
        rcases nw a hk with q | q
        · exact absurd (R.dj j i a hj q) hj1
        · exact absurd q (R.there hj)
      · rw [setL_ne hk1] at hk
        exact R.dj j k a hj hk
  · by_cases hj1 : j = i
    · rw [hj1, setL_same] at hj
      rcases nw a hj with q | q
      · rw [hj1]; exact R.lvb i a q
      · exact .inr ⟨h0 a q, fun z => R.x0 a z q⟩
    · rw [setL_ne hj1] at hj
      exact R.lvb j a hj
  · have e := R.keep a o h n t
    refine kp a o e (fun q => ?_) t
    rcases R.lvb i a q with z | z
    · exact n z.2
    · rw [z.1] at h; cases h
  · obtain ⟨qs, e⟩ := R.ktbl a ps h
    exact kt a qs e
  · obtain ⟨p1, p2, p3, p4⟩ := R.pn a o h
    refine ⟨p1, p2, p3, kp a o p4 (fun q => ?_) p3⟩
    rcases R.lvb i a q with z | z
    · rcases p2 with p2 | ⟨φ, rfl⟩
      · exact p2 z.2
      · exact R.noext q p4
    · rcases p1 with p1 | ⟨φ, rfl⟩
      · exact z.2 p1
      · exact R.noext q p4
theorem Rl.put0 (R : Rl Z Γ s Lv σ H) {i : Nat} {x : Sl} {σ' : L2.St} {L : List Addr} (hi : i < s.length) (hlen : σ'.length = σ.length) (hσ : ∀ j : Nat, j ≠ i → σ'[j]? = σ[j]?) (hb : ∀ i v, Γ.bor i = some v → σ'[i]? = some (some v))
    (nd : L.Nodup) (nw : ∀ a ∈ L, a ∈ Lv i) (r : SloR Z (Γ.X (setL Lv i L)) H x σ'[i]? L) : Rl Z Γ (s.set i x) (setL Lv i L) σ' H ∧ Fw Z (Γ.X Lv) H (Γ.X (setL Lv i L)) H :=
  R.put hi hlen hσ hb (fun _ _ h _ _ => h) (fun _ ps h => ⟨ps, h⟩) (fun h => h) nd (fun a ha => .inl (nw a ha)) (fun _ h => h) r
def Gm.plus (Γ : Gm) (L : List Addr) : Gm := { Γ with X0 := fun a => Γ.X0 a ∨ a ∈ L }
structure Kp (Z : Zt) (H H' : Hp) : Prop where
  keep : ∀ a o, H a = some o → (∀ ps, o ≠ .tbl ps) → H' a = some o
  ktbl : ∀ a ps, H a = some (.tbl ps) → ∃ qs, H' a = some (.tbl qs)
  tabs : LamX.Tabs Z.T H → LamX.Tabs Z.T H'
theorem Kp.same (e : Same H H') : Kp Z H H' := ⟨fun a o h _ => e a o h, fun a ps h => ⟨ps, e a _ h⟩, fun h => h.ext e⟩
theorem Kp.refl : Kp Z H H := .same (Same.refl H)
theorem Kp.trans {H2 : Hp} (f : Kp Z H H') (g : Kp Z H' H2) : Kp Z H H2 := ⟨fun a o h t => g.keep a o (f.keep a o h t) t, fun a ps h => let ⟨qs, e⟩ := f.ktbl a ps h; g.ktbl a qs e, fun h => g.tabs (f.tabs h)⟩
theorem Kp.there (f : Kp Z H H') {a : Addr} (h : H a ≠ none) : H' a ≠ none := fun q => by
  cases p : H a with
  | none => exact h p
  | some o =>
    by_cases ht : ∃ ps, o = .tbl ps
    · obtain ⟨ps, rfl⟩ := ht
      obtain ⟨qs, e⟩ := f.ktbl a ps p
      rw [e] at q; cases q
    · rw [f.keep a o p fun ps z => ht ⟨ps, z⟩] at q; cases q
theorem Kp.fw (f : Kp Z H H') {X : Addr → Prop} : Fw Z X H X H' := ⟨fun a o h _ t => f.keep a o h t, f.ktbl, fun _ h => .inl h, f.tabs⟩
theorem Rl.kp (R : Rl Z Γ s Lv σ H) (f : Kp Z H H') {E : WX} {L : List Addr} (hL : ∀ b ∈ L, H b = none ∧ H' b ≠ none) : Rl Z { Γ.plus L with E := E } s Lv σ H' := by
  have F : Fw Z (Γ.X Lv) H (Gm.X { Γ.plus L with E := E } Lv) H' := by
    refine ⟨fun a o h _ t => f.keep a o h t, f.ktbl, fun a h => ?_, f.tabs⟩
    rcases h with (h | h) | h
    · exact .inl (.inl h)
    · exact .inr (hL a h).1
    · exact .inl (.inr h)
  refine ⟨R.len, fun i x hx => (R.sl i x hx).mono F fun a ha => ?_, R.out, R.nd, R.dj, fun i a ha => ?_, fun a o h n t => f.keep a o (R.keep a o h n t) t, fun a ps h => ?_, fun a h => f.there (R.st0 a h), fun a h => ?_, fun a ha => .inl (R.bx a ha), f.tabs R.tb, R.bor, fun a o h => let ⟨p1, p2, p3, p4⟩ := R.pn a o h; ⟨p1.imp .inl id, p2, p3, f.keep a o p4 p3⟩⟩
  · cases q : H a with
    | none => exact absurd q (R.there ha)
    | some o => exact f.keep a o q fun ps z => R.notbl ha (by rw [q, z])
  · rcases R.lvb i a ha with z | z
    · exact .inl z
    · exact .inr ⟨z.1, fun q => q.elim z.2 fun q => R.there ha (hL a q).1⟩
  · obtain ⟨qs, e⟩ := R.ktbl a ps h
    exact f.ktbl a qs e
  · rcases h with h | h
    · exact f.there (R.x0 a h)
    · exact (hL a h).2
theorem Rl.less0 {Γ' : Gm} {L : List Addr} (R : Rl Z Γ' s Lv σ H) (e1 : Γ'.X0 = (Γ.plus L).X0) (e2 : Γ'.H0 = Γ.H0) (e3 : Γ'.B = Γ.B) (e4 : Γ'.bor = Γ.bor) (hB : ∀ a ∈ Γ.B, Γ.X0 a) (hp : ∀ a o, Γ.pin a o → (Γ.X0 a ∨ Ext o) ∧ (a ∉ Γ.B ∨ Ext o) ∧ (∀ ps, o ≠ .tbl ps) ∧ H a = some o) : Rl Z Γ s Lv σ H := by
  obtain ⟨X0', H0', B', bor', E', pin'⟩ := Γ'
  simp only at e1 e2 e3 e4
  subst e1 e2 e3 e4
  refine ⟨R.len, fun i x hx => (R.sl i x hx).mono (Fw.refl.less fun a h => ?_) fun _ _ => rfl, R.out, R.nd, R.dj, fun i a ha => ?_, R.keep, R.ktbl, R.st0, fun a h => R.x0 a (.inl h), hB, R.tb, R.bor, hp⟩
  · rcases h with h | h
    · exact .inl (.inl h)
    · exact .inr h
  · rcases R.lvb i a ha with z | z
    · exact .inl z
    · exact .inr ⟨z.1, fun q => z.2 (.inl q)⟩
theorem Rl.less {E : WX} {L : List Addr} (R : Rl Z { Γ.plus L with E := E } s Lv σ H) (hB : ∀ a ∈ Γ.B, Γ.X0 a) (hX : ∀ a o, Γ.pin a o → Γ.X0 a ∨ Ext o) : Rl Z Γ s Lv σ H :=
  R.less0 rfl rfl rfl rfl hB fun a o h => let ⟨_, p2, p3, p4⟩ := R.pn a o h; ⟨hX a o h, p2, p3, p4⟩
theorem Rl.pinx (R : Rl Z Γ s Lv σ H) : ∀ a o, Γ.pin a o → Γ.X0 a ∨ Ext o := fun a o h => (R.pn a o h).1
def Gm.blk (Γ : Gm) (p : Addr) (acc : List V) : Gm := { Γ.plus [p] with E := fun _ _ _ _ => False, pin := fun a o => Γ.pin a o ∨ (a = p ∧ o = .lst acc) }
theorem Rl.toBlk {p : Addr} (R : Rl Z Γ s Lv σ H) (np : H p = none) : Rl Z (Γ.blk p []) s Lv σ (upd H p (.lst [])) := by
  have sm : Same H (upd H p (.lst [])) := fun b x e => by
    rw [upd_ne (ne_of_none e np)]
    exact e
  have R1 := R.kp (E := Γ.E) (L := [p]) (.same sm) (fun b hb => by rw [List.mem_singleton.mp hb, upd_same]; exact ⟨np, by simp⟩)
  refine ⟨R1.len, R1.sl, R1.out, R1.nd, R1.dj, R1.lvb, R1.keep, R1.ktbl, R1.st0, R1.x0, R1.bx, R1.tb, R1.bor, fun a o h => ?_⟩
  rcases h with h | ⟨rfl, rfl⟩
  · exact R1.pn a o h
  · exact ⟨.inl (.inr (by simp)), .inl fun q => R.x0 a (R.bx a q) np, fun ps z => (by cases z), upd_same⟩
theorem Rl.grow {p : Addr} {acc acc' : List V} (R : Rl Z (Γ.blk p acc) s Lv σ H) (hp : ∀ o, ¬ Γ.pin p o) (h0 : Γ.H0 p = none) (htb : LamX.Tabs Z.T (upd H p (.lst acc'))) : Rl Z (Γ.blk p acc') s Lv σ (upd H p (.lst acc')) := by
  obtain ⟨p1, p2, p3, p4⟩ := R.pn p _ (.inr ⟨rfl, rfl⟩)
  have nx : ¬ Ext (.lst acc) := fun ⟨_, z⟩ => by cases z
  have p1 := p1.resolve_right nx
  have p2 := p2.resolve_right nx
  have nL : ∀ i, p ∉ Lv i := fun i hi => by
    rcases R.lvb i p hi with z | z
    · exact p2 z.2
    · exact z.2 p1
  have F : Fw Z ((Γ.blk p acc).X Lv) H ((Γ.blk p acc).X Lv) (upd H p (.lst acc')) := by
    refine ⟨fun a o h n _ => ?_, fun a ps h => ?_, fun a h => .inl h, fun _ => htb⟩
    · rw [upd_ne fun z => n (by rw [z]; exact .inl p1)]; exact h
    · rw [upd_ne fun z => by rw [z, p4] at h; cases h]
      exact ⟨ps, h⟩
  have ne : ∀ a o, H a = some o → a ≠ p → upd H p (.lst acc') a = some o := fun a o h n => by rw [upd_ne n]; exact h
  have nn : ∀ a, H a ≠ none → upd H p (.lst acc') a ≠ none := fun a h => by
    by_cases z : a = p
    · rw [z, upd_same]; simp
    · rw [upd_ne z]; exact h
  refine ⟨R.len, fun i x hx => (R.sl i x hx).mono F fun a ha => upd_ne fun z => nL i (by rw [← z]; exact ha), R.out, R.nd, R.dj, R.lvb, fun a o h n t => ?_, fun a ps h => ?_, fun a h => nn a (R.st0 a h), fun a h => nn a (R.x0 a h), R.bx, htb, R.bor, fun a o h => ?_⟩
  · exact ne a o (R.keep a o h n t) fun z => by rw [z] at h; have h : Γ.H0 p = some o := h; rw [h0] at h; cases h
  · obtain ⟨qs, e⟩ := R.ktbl a ps h
    exact ⟨qs, ne a _ e fun z => by rw [z, p4] at e; cases e⟩
  · rcases h with h | ⟨rfl, rfl⟩
    · obtain ⟨q1, q2, q3, q4⟩ := R.pn a o (.inl h)
      exact ⟨q1, q2, q3, ne a o q4 fun z => hp o (by rw [← z]; exact h)⟩
    · exact ⟨.inl p1, .inl p2, fun ps z => (by cases z), upd_same⟩
theorem FdL.toD {X X' : Addr → Prop} : ∀ {fs : List Fd} {vs : List V} {As : List Addr}, (∀ d v, Rep Z X H d v → Rep Z X' H d v) → (∀ ds vs, RepL Z X H ds vs → RepL Z X' H ds vs) → (∀ a ∈ As, ¬ X' a) → FdL Z X H fs vs As → RepL Z X' H (fs.map Fd.toD) vs
  | [], _, _, _, _, _, h => by simpa only [List.map, RepL] using h.1
  | .d x :: fs, vs, As, k, kl, n, h => by
    obtain ⟨v, vr, e, r, h⟩ := h
    simp only [List.map, RepL]
    exact ⟨v, vr, e, k _ _ r, FdL.toD k kl n h⟩
  | .l ds :: fs, vs, As, k, kl, n, h => by
    obtain ⟨a, vr, ws, Ar, e, e2, e3, r, h⟩ := h
    subst e2
    simp only [List.map, RepL]
    refine ⟨_, vr, e, ?_, FdL.toD k kl (fun b hb => n b (List.mem_cons_of_mem _ hb)) h⟩
    show Rep Z X' H (.lst ds) _
    simp only [Rep]
    exact ⟨a, ws, rfl, n a List.mem_cons_self, e3, kl _ _ r⟩
theorem OwnRep.toD {X X' : Addr → Prop} (f : Fw Z X H X' H) : ∀ {o : O} {v : V} {L : List Addr}, (∀ a ∈ L, ¬ X' a) → OwnRep Z X H o v L → Rep Z X' H o.toD v
  | .lst ds, v, L, n, h => by
    obtain ⟨a, vs, e, rfl, e3, r⟩ := h
    simp only [O.toD, Rep]
    exact ⟨a, vs, e, n a (by simp), e3, r.mono f⟩
  | .dic ks ds, v, L, n, h => by
    obtain ⟨a, vs, e, rfl, hl, e3, r⟩ := h
    simp only [O.toD, Rep]
    exact ⟨a, vs, e, n a (by simp), hl, e3, r.mono f⟩
  | .dit ks ds, v, L, n, h => by
    obtain ⟨a, vs, e, rfl, hl, e3, r⟩ := h
    simp only [O.toD, Rep]
    exact ⟨a, vs, e, n a (by simp), hl, e3, r.mono f⟩
  | .ins c ns fs, v, L, n, h => by
    obtain ⟨a, C, dx, vs, As, e, rfl, hl, hm, e3, r⟩ := h
    simp only [O.toD, Rep]
    exact ⟨a, C, dx, vs, e, n a (by simp), hl, hm, e3, FdL.toD (fun d v h => h.mono f) (fun d v h => h.mono f) (fun b hb => n b (List.mem_cons_of_mem _ hb)) r⟩
  | .dls ks fs, v, L, n, h => by
    obtain ⟨a, vs, As, e, rfl, hl, e3, r⟩ := h
    simp only [O.toD, Rep]
    exact ⟨a, vs, e, n a (by simp), hl, e3, FdL.toD (fun d v h => h.mono f) (fun d v h => h.mono f) (fun b hb => n b (List.mem_cons_of_mem _ hb)) r⟩
end
end PD

set_option linter.all false
set_option maxRecDepth 100000
namespace PD
open PySem PySem.Spec PyProof.Rows L2

inductive R (α : Type) where
  | ok (a : α) (s : S) | er (c : Str) (ns : List Str) (ds : List D) (s : S) | st
def R.bind {α β : Type} (x : R α) (f : α → S → R β) : R β := match x with
  | .ok a s => f a s
  | .er c ns ds s => .er c ns ds s
  | .st => .st
@[simp] theorem R.bind_ok {α β : Type} (a : α) (s : S) (f : α → S → R β) : (R.ok a s).bind f = f a s := rfl
@[simp] theorem R.bind_er {α β : Type} (c : Str) (ns : List Str) (ds : List D) (s : S) (f : α → S → R β) : (R.er (α := α) c ns ds s).bind f = .er c ns ds s := rfl
@[simp] theorem R.bind_st {α β : Type} (f : α → S → R β) : (R.st (α := α)).bind f = .st := rfl
inductive W where
  | d (x : D) | p (i : Nat)
def WRep (Z : Zt) (X : Addr → Prop) (σ : L2.St) (H : Hp) : W → V → Prop
  | .d x, v => Rep Z X H x v
  | .p i, v => σ[i]? = some (some v)
def WRepL (Z : Zt) (X : Addr → Prop) (σ : L2.St) (H : Hp) : List W → List V → Prop
  | [], vs => vs = []
  | w :: ws, vs => ∃ v vr, vs = v :: vr ∧ WRep Z X σ H w v ∧ WRepL Z X σ H ws vr
theorem WRep.mono {Z : Zt} {X X' : Addr → Prop} {σ : L2.St} {H H' : Hp} (f : Fw Z X H X' H') : ∀ {w : W} {v : V}, WRep Z X σ H w v → WRep Z X' σ H' w v
  | .d x, v, h => Rep.mono f x v h
  | .p i, v, h => h
theorem WRepL.mono {Z : Zt} {X X' : Addr → Prop} {σ : L2.St} {H H' : Hp} (f : Fw Z X H X' H') : ∀ {w : List W} {v : List V}, WRepL Z X σ H w v → WRepL Z X' σ H' w v
  | [], v, h => h
  | w :: ws, vs, h => by
    obtain ⟨v, vr, e, r, h⟩ := h
    exact ⟨v, vr, e, r.mono f, h.mono f⟩
def Vw (Z : Zt) (X : Addr → Prop) (H : Hp) (d : D) (v : V) : Prop := Rep Z X H d v ∨ ∃ o L, O.seen o = some d ∧ OwnRep Z X H o v L
def VwL (Z : Zt) (X : Addr → Prop) (H : Hp) : List D → List V → Prop
  | [], vs => vs = []
  | d :: ds, vs => ∃ v vr, vs = v :: vr ∧ Vw Z X H d v ∧ VwL Z X H ds vr
def rdW (s : S) : W → Option D
  | .d x => some x
  | .p i => match s[i]? with
    | some (.ow o) => o.seen
    | some (.fz d) => some d
    | _ => none
def rdL (s : S) : List W → Option (List D)
  | [] => some []
  | w :: ws => (rdW s w).bind fun d => (rdL s ws).bind fun ds => some (d :: ds)
def fzW : W → Option D
  | .d x => some x
  | .p _ => none
def fzL : List W → Option (List D)
  | [] => some []
  | w :: ws => (fzW w).bind fun d => (fzL ws).bind fun ds => some (d :: ds)
def ofO {α : Type} (s : S) : Option α → R α
  | some a => .ok a s
  | none => .st
@[simp] theorem ofO_some {α : Type} (s : S) (a : α) : ofO s (some a) = .ok a s := rfl
@[simp] theorem ofO_none {α : Type} (s : S) : ofO (α := α) s none = .st := rfl

def ExR (Z : Zt) (X : Addr → Prop) (H : Hp) (c : Str) (ns : List Str) (ds : List D) (cls : Value) (d : Option Addr) : Prop :=
  ∃ C, cls = .ref C ∧ Z.mg c = some (.ref C) ∧ ((ns = [] ∧ d = none) ∨ ∃ dd vs, d = some dd ∧ ns.length = vs.length ∧ H dd = some (.xd (ns.zip vs)) ∧ RepL Z X H ds vs)

def Po {α β : Type} (Z : Zt) (Γ : Gm) (rep : (Addr → Prop) → L2.St → Hp → α → β → Prop) (r : R α) (Lv : Nat → List Addr) (σ : L2.St) (H : Hp) (Q : β → Hp → Prop) : Prop := match r with
  | .ok a s' => ∀ v H' Lv', Rl Z Γ s' Lv' σ H' → Fw Z (Γ.X Lv) H (Γ.X Lv') H' → rep (Γ.X Lv') σ H' a v → Q v H'
  | .er c ns ds s' => ∀ cls d H' Lv', Rl Z Γ s' Lv' σ H' → Fw Z (Γ.X Lv) H (Γ.X Lv') H' → ExR Z (Γ.X Lv') H' c ns ds cls d → Γ.E cls d σ H'
  | .st => False
def tE (Z : Zt) (Γ : Gm) (f : S → R W) : TE := fun σ H Q => ∃ s Lv, Rl Z Γ s Lv σ H ∧ Po Z Γ (WRep Z) (f s) Lv σ H Q
def tT (Z : Zt) (Γ : Gm) (f : S → R Bool) : TT := fun σ H Q => ∃ s Lv, Rl Z Γ s Lv σ H ∧ Po Z Γ (fun _ _ _ a b => a = b) (f s) Lv σ H Q
def tA (Z : Zt) (Γ : Gm) (f : S → R (List W)) : TA := fun σ H Q => ∃ s Lv, Rl Z Γ s Lv σ H ∧ Po Z Γ (WRepL Z) (f s) Lv σ H Q
inductive Rv where
  | d (x : D) | o (x : O)
def RvRep (Z : Zt) (X : Addr → Prop) (H : Hp) : Rv → V → List Addr → Prop
  | .d x, v, L => L = [] ∧ Rep Z X H x v
  | .o x, v, L => OwnRep Z X H x v L
def tR (Z : Zt) (Γ : Gm) (f : S → R Rv) : TE := fun σ H Q => ∃ s Lv, Rl Z Γ s Lv σ H ∧ match f s with
  | .ok a s' => ∀ v H' Lv' L, Rl Z (Γ.plus L) s' Lv' σ H' → Fw Z (Γ.X Lv) H ((Γ.plus L).X Lv') H' → L.Nodup → (∀ b ∈ L, ¬ Γ.X Lv' b ∧ Γ.H0 b = none) → RvRep Z ((Γ.plus L).X Lv') H' a v L → Q v H'
  | .er c ns ds s' => ∀ cls d H' Lv', Rl Z Γ s' Lv' σ H' → Fw Z (Γ.X Lv) H (Γ.X Lv') H' → ExR Z (Γ.X Lv') H' c ns ds cls d → Γ.E cls d σ H'
  | .st => False

section
variable {Z : Zt} {Γ : Gm} {α β γ δ : Type} {Lv : Nat → List Addr} {σ : L2.St} {H : Hp}
theorem Po.bind {ra : (Addr → Prop) → L2.St → Hp → α → β → Prop} {rc : (Addr → Prop) → L2.St → Hp → γ → δ → Prop} {x : R α} {g : α → S → R γ} {Q : δ → Hp → Prop} (h : Po Z Γ rc (x.bind g) Lv σ H Q) :
    Po Z Γ ra x Lv σ H fun v H1 => ∃ a s1 Lv1, x = .ok a s1 ∧ Rl Z Γ s1 Lv1 σ H1 ∧ Fw Z (Γ.X Lv) H (Γ.X Lv1) H1 ∧ ra (Γ.X Lv1) σ H1 a v ∧ Po Z Γ rc (g a s1) Lv1 σ H1 Q := by
  cases x with
  | ok a s1 =>
    intro v H1 Lv1 R F r
    refine ⟨a, s1, Lv1, rfl, R, F, r, ?_⟩
    have h : Po Z Γ rc (g a s1) Lv σ H Q := h
    generalize g a s1 = y at h
    cases y with
    | ok c s2 => exact fun u H2 Lv2 R2 F2 r2 => h u H2 Lv2 R2 (F.trans F2) r2
    | er c ns ds s2 => exact fun cls d H2 Lv2 R2 F2 r2 => h cls d H2 Lv2 R2 (F.trans F2) r2
    | st => exact h
  | er c ns ds s1 => exact h
  | st => exact h
theorem Po.mono {ra : (Addr → Prop) → L2.St → Hp → α → β → Prop} {x : R α} {Q Q' : β → Hp → Prop} (h : Po Z Γ ra x Lv σ H Q) (k : ∀ v H1, Q v H1 → Q' v H1) : Po Z Γ ra x Lv σ H Q' := by
  cases x with
  | ok a s1 => exact fun v H1 Lv1 R F r => k _ _ (h v H1 Lv1 R F r)
  | er c ns ds s1 => exact h
  | st => exact h
theorem Po.ok {ra : (Addr → Prop) → L2.St → Hp → α → β → Prop} {a : α} {s : S} {v : β} {Q : β → Hp → Prop} (h : Po Z Γ ra (.ok a s) Lv σ H Q) (R : Rl Z Γ s Lv σ H) (r : ra (Γ.X Lv) σ H a v) : Q v H := h v H Lv R Fw.refl r
theorem Po.ok' {ra : (Addr → Prop) → L2.St → Hp → α → β → Prop} {a : α} {s : S} {v : β} {H' : Hp} {Q : β → Hp → Prop} (h : Po Z Γ ra (.ok a s) Lv σ H Q) (R : Rl Z Γ s Lv σ H) (e : Same H H') (r : ra (Γ.X Lv) σ H' a v) : Q v H' :=
  h v H' Lv (R.same e) (Fw.same e) r
theorem rd_ok {s : S} {w : W} {d : D} {v : V} (R : Rl Z Γ s Lv σ H) (r : WRep Z (Γ.X Lv) σ H w v) (h : rdW s w = some d) : Vw Z (Γ.X Lv) H d v := by
  cases w with
  | d x => cases h; exact .inl r
  | p i =>
    simp only [rdW] at h
    split at h
    · rename_i o e
      obtain ⟨u, e2, r2⟩ := R.ow e
      rw [show σ[i]? = some (some v) from r] at e2
      cases e2
      exact .inr ⟨o, _, h, r2⟩
    · rename_i d' e
      cases h
      obtain ⟨u, e2, r2⟩ := R.fz e
      rw [show σ[i]? = some (some v) from r] at e2
      cases e2
      exact .inl r2
    · cases h
theorem rdL_ok {s : S} (R : Rl Z Γ s Lv σ H) : ∀ {ws : List W} {ds : List D} {vs : List V}, WRepL Z (Γ.X Lv) σ H ws vs → rdL s ws = some ds → VwL Z (Γ.X Lv) H ds vs
  | [], ds, vs, r, h => by cases h; exact r
  | w :: ws, ds, vs, r, h => by
    obtain ⟨v, vr, e, r1, r2⟩ := r
    simp only [rdL] at h
    cases e1 : rdW s w with
    | none => rw [e1] at h; cases h
    | some d =>
      cases e2 : rdL s ws with
      | none => rw [e1, e2] at h; cases h
      | some dr =>
        rw [e1, e2] at h
        cases h
        exact ⟨v, vr, e, rd_ok R r1 e1, rdL_ok R r2 e2⟩
theorem fz_ok {X : Addr → Prop} {w : W} {d : D} {v : V} (r : WRep Z X σ H w v) (h : fzW w = some d) : Rep Z X H d v := by
  cases w with
  | d x => cases h; exact r
  | p i => cases h
theorem fzL_ok {X : Addr → Prop} : ∀ {ws : List W} {ds : List D} {vs : List V}, WRepL Z X σ H ws vs → fzL ws = some ds → RepL Z X H ds vs
  | [], ds, vs, r, h => by cases h; simp only [RepL]; exact r
  | w :: ws, ds, vs, r, h => by
    obtain ⟨v, vr, e, r1, r2⟩ := r
    simp only [fzL] at h
    cases e1 : fzW w with
    | none => rw [e1] at h; cases h
    | some d =>
      cases e2 : fzL ws with
      | none => rw [e1, e2] at h; cases h
      | some dr =>
        rw [e1, e2] at h
        cases h
        simp only [RepL]
        exact ⟨v, vr, e, fz_ok r1 e1, fzL_ok r2 e2⟩
theorem RepL.length {X : Addr → Prop} : ∀ {ds : List D} {vs : List V}, RepL Z X H ds vs → ds.length = vs.length
  | [], vs, h => by simp only [RepL] at h; rw [h]; rfl
  | d :: ds, vs, h => by
    simp only [RepL] at h
    obtain ⟨v, vr, e, r, h⟩ := h
    rw [e, List.length_cons, List.length_cons, RepL.length h]
theorem RepL.get {X : Addr → Prop} : ∀ {ds : List D} {vs : List V} {i : Nat} {d : D}, RepL Z X H ds vs → ds[i]? = some d → ∃ v, vs[i]? = some v ∧ Rep Z X H d v
  | [], _, _, _, _, e => by simp at e
  | d :: ds, vs, 0, x, h, e => by
    simp only [RepL] at h
    obtain ⟨v, vr, rfl, r, h⟩ := h
    simp at e; subst e
    exact ⟨v, rfl, r⟩
  | d :: ds, vs, i + 1, x, h, e => by
    simp only [RepL] at h
    obtain ⟨v, vr, rfl, r, h⟩ := h
    obtain ⟨u, e2, r2⟩ := RepL.get (i := i) (d := x) h (by simpa using e)
    exact ⟨u, by simpa using e2, r2⟩
theorem RepL.app {X : Addr → Prop} : ∀ {ds es : List D} {vs us : List V}, RepL Z X H ds vs → RepL Z X H es us → RepL Z X H (ds ++ es) (vs ++ us)
  | [], es, vs, us, h, h2 => by simp only [RepL] at h; subst h; simpa using h2
  | d :: ds, es, vs, us, h, h2 => by
    simp only [RepL] at h
    obtain ⟨v, vr, rfl, r, h⟩ := h
    simp only [List.cons_append, RepL]
    exact ⟨v, vr ++ us, rfl, r, RepL.app h h2⟩
theorem RepL.one {X : Addr → Prop} {d : D} {v : V} (h : Rep Z X H d v) : RepL Z X H [d] [v] := by
  simp only [RepL]
  exact ⟨v, [], rfl, h, rfl⟩
theorem RepL.nil {X : Addr → Prop} : RepL Z X H [] [] := by simp only [RepL]
theorem RepL.take {X : Addr → Prop} : ∀ {ds : List D} {vs : List V} (n : Nat), RepL Z X H ds vs → RepL Z X H (ds.take n) (vs.take n)
  | _, _, 0, _ => by simp only [List.take_zero, RepL]
  | [], vs, n + 1, h => by simp only [RepL] at h; subst h; simp only [List.take_nil, RepL]
  | d :: ds, vs, n + 1, h => by
    simp only [RepL] at h
    obtain ⟨v, vr, rfl, r, h⟩ := h
    simp only [List.take_succ_cons, RepL]
    exact ⟨v, _, rfl, r, RepL.take n h⟩
theorem RepL.drop {X : Addr → Prop} : ∀ {ds : List D} {vs : List V} (n : Nat), RepL Z X H ds vs → RepL Z X H (ds.drop n) (vs.drop n)
  | _, _, 0, h => by simpa using h
  | [], vs, n + 1, h => by simp only [RepL] at h; subst h; simp only [List.drop_nil, RepL]
  | d :: ds, vs, n + 1, h => by
    simp only [RepL] at h
    obtain ⟨v, vr, rfl, r, h⟩ := h
    simpa using RepL.drop n h
end

def rD (Z : Zt) (g : List D → Option D) : List V → Hp → VK → Prop := fun xs H Q =>
  ∃ (X : Addr → Prop) (ds : List D) (d : D), (∀ a, X a → H a ≠ none) ∧ VwL Z X H ds xs ∧ g ds = some d ∧ ∀ v H', Same H H' → Rep Z X H' d v → Q v H'
abbrev rD2 (Z : Zt) (g : List D → Option D) : R2 := fun x y H Q => rD Z g [x, y] H Q
end PD

set_option linter.all false
set_option maxRecDepth 100000
namespace PD
open PySem PySem.Spec PyProof.Rows L2

theorem pe_imp {X : Cx} {e : Expr} {t t' : TE} (h : PE X e t) (k : ∀ σ H Q, t' σ H Q → t σ H Q) : PE X e t' := ⟨fun pins s σ H Q I q => h.run pins s σ H Q I (k σ H Q q)⟩
theorem pt_imp {X : Cx} {e : Expr} {t t' : TT} (h : PT X e t) (k : ∀ σ H Q, t' σ H Q → t σ H Q) : PT X e t' := ⟨fun pins s σ H Q I q => h.run pins s σ H Q I (k σ H Q q)⟩
theorem pw_imp {X : Cx} {e : Expr} {t t' : TT} (h : PW X e t) (k : ∀ σ H Q, t' σ H Q → t σ H Q) : PW X e t' := ⟨fun wh pins s σ H Q I q => h.run wh pins s σ H Q I (k σ H Q q)⟩
theorem pa_imp {X : Cx} {es : List Expr} {t t' : TA} (h : PA X es t) (k : ∀ σ H Q, t' σ H Q → t σ H Q) : PA X es t' := ⟨fun pos pins s σ H Q I q => h.run pos pins s σ H Q I (k σ H Q q)⟩
theorem ps_imp {X : Cx} {e : Stmt} {t t' : TS} (h : PS X e t) (k : ∀ D σ H, t' D σ H → t D σ H) : PS X e t' := ⟨fun pins s σ H D I q => h.run pins s σ H D I (k D σ H q)⟩
theorem pss_imp {X : Cx} {e : List Stmt} {t t' : TS} (h : PSs X e t) (k : ∀ D σ H, t' D σ H → t D σ H) : PSs X e t' := ⟨fun pins s σ H D I q => h.run pins s σ H D I (k D σ H q)⟩

def eV (i : Nat) : S → R W := fun s => match s[i]? with
  | some (.fz d) => .ok (.d d) s
  | some (.ow _) => .ok (.p i) s
  | _ => .st
def eC (d : D) : S → R W := fun s => .ok (.d d) s
def eUn (g : List D → Option D) (f : S → R W) : S → R W := fun s => (f s).bind fun w s1 => ofO s1 ((rdW s1 w).bind fun d => (g [d]).map W.d)
def eBin (g : List D → Option D) (fa fb : S → R W) : S → R W := fun s => (fa s).bind fun w s1 => (fb s1).bind fun u s2 => ofO s2 ((rdL s2 [w, u]).bind fun ds => (g ds).map W.d)
def eApp (g : List D → Option D) (f : S → R (List W)) : S → R W := fun s => (f s).bind fun ws s1 => ofO s1 ((rdL s1 ws).bind fun ds => (g ds).map W.d)
def aNil : S → R (List W) := fun s => .ok [] s
def aCons (f : S → R W) (g : S → R (List W)) : S → R (List W) := fun s => (f s).bind fun w s1 => (g s1).bind fun ws s2 => .ok (w :: ws) s2
def truD : D → Option Bool
  | .non => some false
  | .bl b => some b
  | .int i => some (i != 0)
  | .str s => if s.length ≤ 1000000 then some (s.length != 0) else none
  | .tup ds => some (!ds.isEmpty)
  | .lst ds => some (!ds.isEmpty)
  | _ => none
def eAnd (fa fb : S → R W) : S → R W := fun s => (fa s).bind fun w s1 => match w with
  | .d (.bl true) => fb s1
  | .d (.bl false) => .ok (.d (.bl false)) s1
  | _ => .st
def eOr (fa fb : S → R W) : S → R W := fun s => (fa s).bind fun w s1 => match w with
  | .d (.bl false) => fb s1
  | .d (.bl true) => .ok (.d (.bl true)) s1
  | _ => .st
def gNot : List D → Option D
  | [.bl b] => some (.bl (!b))
  | _ => none
def eIf (t : S → R Bool) (fa fb : S → R W) : S → R W := fun s => (t s).bind fun b s1 => if b = true then fa s1 else fb s1
def cVal (f : S → R W) : S → R Bool := fun s => (f s).bind fun w s1 => ofO s1 ((rdW s1 w).bind truD)
def cAnd (f g : S → R Bool) : S → R Bool := fun s => (f s).bind fun b s1 => if b = true then g s1 else .ok false s1
def cOr (f g : S → R Bool) : S → R Bool := fun s => (f s).bind fun b s1 => if b = true then .ok true s1 else g s1
def cNot (f : S → R Bool) : S → R Bool := fun s => (f s).bind fun b s1 => .ok (!b) s1
section
variable {X : Cx} {Z : Zt} {Γ : Gm} {a b e : Expr} {es : List Expr} {pos : Pos} {fa fb fc : S → R W} {ga gb : S → R Bool} {fs : S → R (List W)}

theorem de_v (i : Nat) {x : Str} (hN : X.N[i]? = some x := by rfl) (hv : Vis X.env.scope x := by first | exact Or.inl rfl | exact Or.inr (Or.inl rfl) | exact Or.inr (Or.inr rfl)) (hd : (x == ("__debug__" : Str)) = false := by decide)
    (hcd : (x == ("__classdict__" : Str)) = false := by decide) : PE X (.Name x pos) (tE Z Γ (eV i)) := by
  refine pe_imp (pv i hN hv hd hcd) fun σ H Q h => ?_
  obtain ⟨s, Lv, R, po⟩ := h
  simp only [eV] at po
  split at po
  · rename_i d e
    obtain ⟨v, e2, r⟩ := R.fz e
    exact ⟨v, e2, po.ok R r⟩
  · rename_i o e
    obtain ⟨v, e2, r⟩ := R.ow e
    exact ⟨v, e2, po.ok R e2⟩
  · exact po.elim
theorem de_c {d : D} {v : V} (h : PE X e (tC v)) (r : ∀ Y H, Rep Z Y H d v) : PE X e (tE Z Γ (eC d)) := by
  refine pe_imp h fun σ H Q h => ?_
  obtain ⟨s, Lv, R, po⟩ := h
  exact po.ok R (r _ _)
theorem de_int {i j} : PE X (.Constant (.int i) j pos) (tE Z Γ (eC (.int i))) := de_c pe_int fun _ _ => by simp only [Rep]
theorem de_bl {i j} : PE X (.Constant (.bool i) j pos) (tE Z Γ (eC (.bl i))) := de_c pe_bl fun _ _ => by simp only [Rep]
theorem de_str {i j} : PE X (.Constant (.str i) j pos) (tE Z Γ (eC (.str i))) := de_c pe_str fun _ _ => by simp only [Rep]
theorem de_non {j} : PE X (.Constant .none j pos) (tE Z Γ (eC .non)) := de_c pe_non fun _ _ => by simp only [Rep]

theorem fin_D {s : S} {Lv : Nat → List Addr} {σ : L2.St} {H : Hp} {Q : VK} {ws : List W} {vs : List V} {g : List D → Option D} (R : Rl Z Γ s Lv σ H) (r : WRepL Z (Γ.X Lv) σ H ws vs)
    (po : Po Z Γ (WRep Z) (ofO s ((rdL s ws).bind fun ds => (g ds).map W.d)) Lv σ H Q) : rD Z g vs H Q := by
  cases e1 : rdL s ws with
  | none => rw [e1] at po; exact po.elim
  | some ds =>
    cases e2 : g ds with
    | none => rw [e1] at po; simp only [Option.bind_some, e2, Option.map_none] at po; exact po.elim
    | some d =>
      rw [e1] at po
      simp only [Option.bind_some, e2, Option.map_some] at po
      exact ⟨Γ.X Lv, ds, d, fun a h => R.xs h, rdL_ok R r e1, e2, fun v H' sm rp => po.ok' R sm rp⟩
theorem de_un {op : UnaryOp} {g : List D → Option D} (ho : UnR X (unaryOp op) fun x H Q => rD Z g [x] H Q) (ha : PE X a (tE Z Γ fa)) : PE X (.UnaryOp op a pos) (tE Z Γ (eUn g fa)) := by
  refine pe_imp (pe_un ho ha) fun σ H Q h => ?_
  obtain ⟨s, Lv, R, po⟩ := h
  refine ⟨s, Lv, R, po.bind.mono fun v H1 ⟨w, s1, Lv1, _, R1, F1, r1, po1⟩ => fin_D (ws := [w]) R1 ⟨v, [], rfl, r1, rfl⟩ ?_⟩
  have e : (rdL s1 [w]).bind (fun ds => (g ds).map W.d) = (rdW s1 w).bind fun d => (g [d]).map W.d := by
    simp only [rdL]
    cases rdW s1 w <;> rfl
  rw [e]
  exact po1
theorem bin_D {σ : L2.St} {H : Hp} {Q : VK} {g : List D → Option D} (h : tE Z Γ (eBin g fa fb) σ H Q) : tOp (rD2 Z g) (tE Z Γ fa) (tE Z Γ fb) σ H Q := by
  obtain ⟨s, Lv, R, po⟩ := h
  refine ⟨s, Lv, R, po.bind.mono fun v H1 ⟨w, s1, Lv1, _, R1, F1, r1, po1⟩ => ⟨s1, Lv1, R1, po1.bind.mono fun u H2 ⟨w2, s2, Lv2, _, R2, F2, r2, po2⟩ => ?_⟩⟩
  exact fin_D (ws := [w, w2]) R2 ⟨v, [u], rfl, r1.mono F2, u, [], rfl, r2, rfl⟩ po2
theorem de_bin {op : Operator} {g : List D → Option D} (ho : OpR X (binaryOp op) (rD2 Z g)) (ha : PE X a (tE Z Γ fa)) (hb : PE X b (tE Z Γ fb)) : PE X (.BinOp a op b pos) (tE Z Γ (eBin g fa fb)) :=
  pe_imp (pe_op ho ha hb) fun _ _ _ h => bin_D h
theorem de_cmp {op : CmpOp} {g : List D → Option D} (ho : OpR X (compareOp op) (rD2 Z g)) (ha : PE X a (tE Z Γ fa)) (hb : PE X b (tE Z Γ fb)) (hm : behindInMarks op b = false := by first | exact nomark _ | rfl) : PE X (.Compare a [op] [b] pos) (tE Z Γ (eBin g fa fb)) :=
  pe_imp (pe_cmpR ho ha hb hm) fun _ _ _ h => bin_D h
theorem de_ix {g : List D → Option D} (ho : IxR X (rD2 Z g)) (ha : PE X a (tE Z Γ fa)) (hb : PE X b (tE Z Γ fb)) (hs : PlainIx b := by exact fun _ _ => rfl) : PE X (.Subscript a b pos) (tE Z Γ (eBin g fa fb)) :=
  pe_imp (pe_ix ho ha hb hs) fun _ _ _ h => bin_D h

theorem vw_lst {Y : Addr → Prop} {H : Hp} {ds : List D} {v : V} (h : Vw Z Y H (.lst ds) v) : ∃ a vs, v = .ref a ∧ H a = some (.lst vs) ∧ RepL Z Y H ds vs := by
  rcases h with h | ⟨o, L, q, h⟩
  · simp only [Rep] at h
    obtain ⟨a, vs, e, _, r, h⟩ := h
    exact ⟨a, vs, e, r, h⟩
  · cases o with
    | lst xs =>
      cases q
      obtain ⟨a, vs, e, _, r, h⟩ := h
      exact ⟨a, vs, e, r, h⟩
    | _ => cases q
theorem vw_tup {Y : Addr → Prop} {H : Hp} {ds : List D} {v : V} (h : Vw Z Y H (.tup ds) v) : ∃ a vs, v = .ref a ∧ SqT Z.K H a vs ∧ RepL Z Y H ds vs := by
  rcases h with h | ⟨o, L, q, h⟩
  · simp only [Rep] at h
    obtain ⟨a, vs, e, r, h⟩ := h
    exact ⟨a, vs, e, r.sq, h⟩
  · cases o <;> cases q
theorem vw_int {Y : Addr → Prop} {H : Hp} {i : Int} {v : V} (h : Vw Z Y H (.int i) v) : v = .int i := by
  rcases h with h | ⟨o, L, q, h⟩
  · simpa only [Rep] using h
  · cases o <;> cases q
theorem vw_bl {Y : Addr → Prop} {H : Hp} {i : Bool} {v : V} (h : Vw Z Y H (.bl i) v) : v = .bl i := by
  rcases h with h | ⟨o, L, q, h⟩
  · simpa only [Rep] using h
  · cases o <;> cases q
theorem vw_str {Y : Addr → Prop} {H : Hp} {i : Str} {v : V} (h : Vw Z Y H (.str i) v) : v = .str i := by
  rcases h with h | ⟨o, L, q, h⟩
  · simpa only [Rep] using h
  · cases o <;> cases q
theorem vw_non {Y : Addr → Prop} {H : Hp} {v : V} (h : Vw Z Y H .non v) : v = .non := by
  rcases h with h | ⟨o, L, q, h⟩
  · simpa only [Rep] using h
  · cases o <;> cases q
theorem vw_dic {Y : Addr → Prop} {H : Hp} {ks : List Key} {ds : List D} {v : V} (h : Vw Z Y H (.dic ks ds) v) : ∃ a vs, v = .ref a ∧ ks.length = vs.length ∧ H a = some (.dK (ks.zip vs)) ∧ RepL Z Y H ds vs := by
  rcases h with h | ⟨o, L, q, h⟩
  · simp only [Rep] at h
    obtain ⟨a, vs, e, _, l, r, h⟩ := h
    exact ⟨a, vs, e, l, r, h⟩
  · cases o with
    | dic ks' xs =>
      cases q
      obtain ⟨a, vs, e, _, l, r, h⟩ := h
      exact ⟨a, vs, e, l, r, h⟩
    | _ => cases q
theorem lim_line {n : Nat} (h : n ≤ 1000000) : n ≤ sizeLine := Nat.le_trans h (by rw [sizeLine_eq]; decide)
theorem tru_D {Y : Addr → Prop} {H : Hp} {d : D} {v : V} {k : Bool} (hK : X.K = Z.K) (h : Vw Z Y H d v) (e : truD d = some k) : TruV X.K v H k := by
  cases d with
  | non => rw [vw_non h]; cases e; rfl
  | bl b => rw [vw_bl h]; cases e; rfl
  | int i => rw [vw_int h]; cases e; rfl
  | str z =>
    rw [vw_str h]
    simp only [truD] at e
    split at e
    · rename_i hz
      cases e
      refine ⟨lim_line hz, ?_⟩
      cases hn : z.length with
      | zero => rfl
      | succ n => simp only [bne, Bool.not_inj_iff]; rfl
    · cases e
  | tup ds =>
    obtain ⟨a, vs, rfl, t, r⟩ := vw_tup h
    simp only [truD] at e
    cases e
    refine .inr (.inl ⟨vs, by rw [hK]; exact t, ?_⟩)
    have hl := r.length
    cases ds <;> cases vs <;> simp_all
  | lst ds =>
    obtain ⟨a, vs, rfl, t, r⟩ := vw_lst h
    simp only [truD] at e
    cases e
    refine .inl ⟨vs, .inl (.inl t), ?_⟩
    have hl := r.length
    cases ds <;> cases vs <;> simp_all
  | _ => cases e
theorem dt_val (ha : PE X a (tE Z Γ fa)) (hK : X.K = Z.K := by rfl) (he : ∀ whole, isTrue a X.env whole = (do let v ← whole; standAt a.pos; holding [v] (truthy v)) := by intro _; rfl) : PT X a (tT Z Γ (cVal fa)) := by
  refine pt_imp (pt_truth ha he) fun σ H Q h => ?_
  obtain ⟨s, Lv, R, po⟩ := h
  refine ⟨s, Lv, R, po.bind.mono fun v H1 ⟨w, s1, Lv1, _, R1, F1, r1, po1⟩ => ?_⟩
  cases e1 : rdW s1 w with
  | none => rw [e1] at po1; exact po1.elim
  | some d =>
    rw [e1] at po1
    simp only [Option.bind_some] at po1
    cases e2 : truD d with
    | none => rw [e2] at po1; exact po1.elim
    | some k =>
      rw [e2] at po1
      exact ⟨k, tru_D hK (rd_ok R1 r1 e1) e2, po1.ok R1 rfl⟩
theorem dw_or1 (ha : PT X a (tT Z Γ ga)) : PW X (.BoolOp .Or [a] pos) (tT Z Γ ga) := pw_or1 ha
theorem dw_or {rest : List Expr} (ha : PT X a (tT Z Γ ga)) (hb : PW X (.BoolOp .Or (b :: rest) pos) (tT Z Γ gb)) : PW X (.BoolOp .Or (a :: b :: rest) pos) (tT Z Γ (cOr ga gb)) := by
  refine pw_imp (pw_or ha hb) fun σ H Q h => ?_
  obtain ⟨s, Lv, R, po⟩ := h
  refine ⟨s, Lv, R, po.bind.mono fun v H1 ⟨w, s1, Lv1, _, R1, F1, r1, po1⟩ => ?_⟩
  subst r1
  cases w with
  | true => rw [if_pos rfl] at po1 ⊢; exact po1.ok R1 rfl
  | false => rw [if_neg Bool.false_ne_true] at po1 ⊢; exact ⟨s1, Lv1, R1, po1⟩
theorem dt_bool {op : BoolOp} {vs : List Expr} (h : PW X (.BoolOp op vs pos) (tT Z Γ ga)) : PT X (.BoolOp op vs pos) (tT Z Γ ga) := h.pt
theorem dt_not (ha : PT X a (tT Z Γ ga)) : PT X (.UnaryOp .Not a pos) (tT Z Γ (cNot ga)) := by
  refine pt_imp (pt_not ha) fun σ H Q h => ?_
  obtain ⟨s, Lv, R, po⟩ := h
  refine ⟨s, Lv, R, po.bind.mono fun v H1 ⟨w, s1, Lv1, _, R1, F1, r1, po1⟩ => ?_⟩
  subst r1
  exact po1.ok R1 rfl

theorem da_nil : PA X [] (tA Z Γ aNil) := by
  refine pa_imp pa_nil fun σ H Q h => ?_
  obtain ⟨s, Lv, R, po⟩ := h
  exact po.ok R rfl
theorem da_cons (ha : PE X e (tE Z Γ fa)) (hr : PA X es (tA Z Γ fs)) (hs : starEach (e :: es) X.env = (false, eval e X.env) :: starEach es X.env := by rfl) : PA X (e :: es) (tA Z Γ (aCons fa fs)) := by
  refine pa_imp (pa_cons ha hr hs) fun σ H Q h => ?_
  obtain ⟨s, Lv, R, po⟩ := h
  refine ⟨s, Lv, R, po.bind.mono fun v H1 ⟨w, s1, Lv1, _, R1, F1, r1, po1⟩ => ⟨s1, Lv1, R1, po1.bind.mono fun vs H2 ⟨ws, s2, Lv2, _, R2, F2, r2, po2⟩ => ?_⟩⟩
  exact po2.ok R2 ⟨v, vs, rfl, r1.mono F2, r2⟩
end
def eTup (f : S → R (List W)) : S → R W := fun s => (f s).bind fun ws s1 => ofO s1 ((fzL ws).bind fun ds => if ds.length ≤ 1000000 then some (W.d (.tup ds)) else none)
def eLst (f : S → R (List W)) : S → R W := fun s => (f s).bind fun ws s1 => ofO s1 ((fzL ws).bind fun ds => if ds.length ≤ 1000000 then some (W.d (.lst ds)) else none)
section
variable {X : Cx} {Z : Zt} {Γ : Gm} {a b e : Expr} {es : List Expr} {pos : Pos} {fs : S → R (List W)}
theorem same_new {H : Hp} {p : Addr} {o : HO} (h : H p = none) : Same H (upd H p o) := fun b x e => by
  rw [upd_ne (ne_of_none e h)]
  exact e
theorem de_tup {x1} (h : PA X es (tA Z Γ fs)) : PE X (.Tuple es x1 pos) (tE Z Γ (eTup fs)) := by
  refine pe_imp (pe_tup h) fun σ H Q h => ?_
  obtain ⟨s, Lv, R, po⟩ := h
  refine ⟨s, Lv, R, po.bind.mono fun vs H1 ⟨ws, s1, Lv1, _, R1, F1, r1, po1⟩ => ?_⟩
  cases e1 : fzL ws with
  | none => rw [e1] at po1; exact po1.elim
  | some ds =>
    rw [e1] at po1
    simp only [Option.bind_some] at po1
    by_cases hl : ds.length ≤ 1000000
    · rw [if_pos hl] at po1
      have r := fzL_ok r1 e1
      refine ⟨by rw [← r.length]; exact lim_line hl, fun p np => ?_⟩
      have sm : Same H1 (upd H1 p (.tup vs)) := same_new np
      refine po1.ok' R1 sm ?_
      simp only [WRep, Rep]
      exact ⟨p, vs, rfl, .inl ⟨fun q => R1.xs q np, upd_same⟩, r.mono (Fw.same sm)⟩
    · rw [if_neg hl] at po1; exact po1.elim
theorem de_lst (h : PA X es (tA Z Γ fs)) : PE X (.List es pos) (tE Z Γ (eLst fs)) := by
  refine pe_imp (pe_lst h) fun σ H Q h => ?_
  obtain ⟨s, Lv, R, po⟩ := h
  refine ⟨s, Lv, R, po.bind.mono fun vs H1 ⟨ws, s1, Lv1, _, R1, F1, r1, po1⟩ => ?_⟩
  cases e1 : fzL ws with
  | none => rw [e1] at po1; exact po1.elim
  | some ds =>
    rw [e1] at po1
    simp only [Option.bind_some] at po1
    by_cases hl : ds.length ≤ 1000000
    · rw [if_pos hl] at po1
      have r := fzL_ok r1 e1
      refine ⟨by rw [← r.length]; exact lim_line hl, fun p np => ?_⟩
      have sm : Same H1 (upd H1 p (.lst vs)) := same_new np
      refine po1.ok' R1 sm ?_
      simp only [WRep, Rep]
      exact ⟨p, vs, rfl, fun q => R1.xs q np, upd_same, r.mono (Fw.same sm)⟩
    · rw [if_neg hl] at po1; exact po1.elim
theorem de_callB {x : Str} {p : Pos} {id : String} {g : List D → Option D} (hc : CallR X (.builtin id) (rD Z g)) (hg : Gl X x) (hm : X.mg x = none) (hv : bootBuiltins x = some (.builtin id)) (ha : PA X (e :: es) (tA Z Γ fs)) (hn : x ≠ "__name__" := by decide) (hdb : (x == ("__debug__" : Str)) = false := by decide)
    (he : starEach (e :: es) X.env = (false, eval e X.env) :: starEach es X.env := by rfl) (hpl : (backTo pos (starEach es X.env)).any (·.1) = false := by rfl) : PE X (.Call (.Name x p) (e :: es) [] pos) (tE Z Γ (eApp g fs)) := by
  refine pe_imp (pe_callB hc hg hm hv ha hn hdb he hpl) fun σ H Q h => ?_
  obtain ⟨s, Lv, R, po⟩ := h
  exact ⟨s, Lv, R, po.bind.mono fun vs H1 ⟨ws, s1, Lv1, _, R1, F1, r1, po1⟩ => fin_D R1 r1 po1⟩
end
end PD

set_option linter.all false
set_option maxRecDepth 100000
open PySem PySem.Spec PyProof.Rows L2
namespace L2
set_option maxHeartbeats 1000000
section
variable {X : Cx}
theorem op_mulStr : OpR X (binaryOp .Mult) (fun x y H Q => ∃ i k, x = .str i ∧ y = .int k ∧ MulOk i k ∧ Q (.str (Txt.mul i k)) H) := by
  intro pins s σ H x y v u Q I rx ry h
  obtain ⟨i, k, rfl, rfl, hz, q⟩ := h
  obtain ⟨t, rfl⟩ := rx
  obtain ⟨t', rfl⟩ := ry
  exact SB.mul hz (fun t' tk => ⟨.str (Txt.mul i k), H, I.tok _, ⟨_, rfl⟩, q⟩)
theorem tuple_mul1 (l : Addr) (items : Array Value) (n : Nat) (dd : Option Addr) (sl : Array (Option Value)) (x : Int) (u : Tok) (c0 : (decide (x < -(2 ^ 63)) || decide (x ≥ 2 ^ 63)) = false) (c1 : (items.isEmpty || x == 1) = true) :
    Meets (Builtin.«tuple.__mul__» ⟨[.ref l, .int x u], []⟩) (fun _ R s => s.heap.get? l = some { cls := .type "tuple", dict := dd, data := .seq items n, slots := sl } ∧
      R (.ok (.ret (Value.ref l))) s) :=
  .of_wp fun prog w A R s h => by
    obtain ⟨hp, g, d, tk, os⟩ := s
    obtain ⟨hl, h⟩ := h
    have f1 := AutoSeq1.idx_int
    wp_walk using wpAny_loadPart' hl
    repeat (first
      | (refine wpAny_ite_false (decide_eq_false (by rw [c0]; exact Bool.false_ne_true)) ?_; wp_walk using wpAny_loadPart' hl)
      | (refine wpAny_ite_true (decide_eq_true (by rw [c1])) ?_; wp_walk using wpAny_loadPart' hl))
    exact ⟨_, rfl, h⟩
theorem tuple_mul0 (l : Addr) (items : Array Value) (n : Nat) (dd : Option Addr) (sl : Array (Option Value)) (x : Int) (u : Tok) (c0 : (decide (x < -(2 ^ 63)) || decide (x ≥ 2 ^ 63)) = false) (c1 : (items.isEmpty || x == 1) = false) (c2 : (decide (x ≤ 0) || items.isEmpty) = true) :
    Meets (Builtin.«tuple.__mul__» ⟨[.ref l, .int x u], []⟩) (fun _ R s => s.heap.get? l = some { cls := .type "tuple", dict := dd, data := .seq items n, slots := sl } ∧
      R (.ok (.ret (Value.ref s.heap.objs.size))) { s with heap := s.heap.push { cls := Value.type "tuple", data := Data.seq #[] }, toks := s.toks }) :=
  .of_wp fun prog w A R s h => by
    obtain ⟨hp, g, d, tk, os⟩ := s
    obtain ⟨hl, h⟩ := h
    have f1 := AutoSeq1.idx_int
    wp_walk using wpAny_loadPart' hl
    repeat (first
      | (refine wpAny_ite_false (decide_eq_false (by rw [c0]; exact Bool.false_ne_true)) ?_; wp_walk using wpAny_loadPart' hl)
      | (refine wpAny_ite_false (decide_eq_false (by rw [c1]; exact Bool.false_ne_true)) ?_; wp_walk using wpAny_loadPart' hl)
      | (refine wpAny_ite_true (decide_eq_true (by rw [c2])) ?_; wp_walk using wpAny_loadPart' hl))
    exact ⟨_, rfl, h⟩
theorem op_repT1 : OpR X (binaryOp .Mult) (fun x y H Q => ∃ l xs, x = .ref l ∧ y = .int 1 ∧ SqT X.K H l xs ∧ Q (.ref l) H) := by
  intro pins s σ H x y v u Q I rx ry h
  obtain ⟨l, xs, rfl, rfl, hT, q⟩ := h
  cases rx
  obtain ⟨t, rfl⟩ := ry
  obtain ⟨its, r, ⟨⟨cls, dd, data, sl⟩, ho, hc, n, hd⟩, hs⟩ := I.tuple hT
  simp only at hc hd
  subst hc hd
  refine wpAny_binaryOp_repeat_ref (T := "tuple") (U := "int") (by decide) ⟨_, ho, rfl⟩ (fun s' => typeIs_int s' 1 t) noFill_tuple_mul F.fills_int_mul F.slot_int_rmul repeat_tuple F.slot_int_index.lookup
    (call_meets F.slot_int_rmul (typeIs_int s 1 t) F.entry_int_rmul (F.args_int_rmul_2 _ _) (int_rmul_tuple 1 t l its.toArray n dd sl)
      ⟨ho, rfl, ⟨_, ho, rfl⟩, call_meets F.slot_tuple_mul ⟨_, ho, rfl⟩ F.entry_tuple_mul (F.args_tuple_mul_2 _ _) (tuple_mul1 l its.toArray n dd sl 1 t (by decide) (by simp)) ⟨ho, ?_⟩⟩)
  exact ⟨.ref l, H, I, rfl, q⟩
theorem op_repT0 : OpR X (binaryOp .Mult) (fun x y H Q => ∃ l xs, x = .ref l ∧ y = .int 0 ∧ SqT X.K H l xs ∧ xs ≠ [] ∧ ∀ p, H p = none → Q (.ref p) (upd H p (.tup []))) := by
  intro pins s σ H x y v u Q I rx ry h
  obtain ⟨l, xs, rfl, rfl, hT, hne, q⟩ := h
  cases rx
  obtain ⟨t, rfl⟩ := ry
  obtain ⟨its, r, ⟨⟨cls, dd, data, sl⟩, ho, hc, n, hd⟩, hs⟩ := I.tuple hT
  simp only at hc hd
  subst hc hd
  have hle : its.length = xs.length := r.length.symm
  have hn : its ≠ [] := fun e => hne (by
    rw [e] at hle
    exact List.eq_nil_of_length_eq_zero hle.symm)
  have hi : its.toArray.isEmpty = false := by
    cases its with
    | nil => exact absurd rfl hn
    | cons a b => rfl
  refine wpAny_binaryOp_repeat_ref (T := "tuple") (U := "int") (by decide) ⟨_, ho, rfl⟩ (fun s' => typeIs_int s' 0 t) noFill_tuple_mul F.fills_int_mul F.slot_int_rmul repeat_tuple F.slot_int_index.lookup
    (call_meets F.slot_int_rmul (typeIs_int s 0 t) F.entry_int_rmul (F.args_int_rmul_2 _ _) (int_rmul_tuple 0 t l its.toArray n dd sl)
      ⟨ho, rfl, ⟨_, ho, rfl⟩, call_meets F.slot_tuple_mul ⟨_, ho, rfl⟩ F.entry_tuple_mul (F.args_tuple_mul_2 _ _) (tuple_mul0 l its.toArray n dd sl 0 t (by decide) (by rw [hi]; rfl) (by rfl)) ⟨ho, ?_⟩⟩)
  refine ⟨.ref s.heap.objs.size, _, I.laid (t' := s.toks) (o := .tup []) (fun b ob q => Heap.get?_push_of_some _ q) (Nat.le_refl _) ?_, rfl, q _ (I.hok.fresh (Nat.le_refl _))⟩
  exact ⟨by simp, _, .nil, IsTup.new _ _⟩
end
end L2
namespace PD
open PySem PySem.Spec PyProof.Rows L2

def lim : Nat := 1000000
mutual
def D.toP : D → Option PyData
  | .non => some .none
  | .bl b => some (.bool b)
  | .int i => some (.int i)
  | .str s => some (.str s)
  | .tup ds => (toPL ds).map .tuple
  | .lst ds => (toPL ds).map .list
  | _ => none
def toPL : List D → Option (List PyData)
  | [] => some []
  | d :: ds => (D.toP d).bind fun p => (toPL ds).map (p :: ·)
end
section
variable {X : Cx} {Z : Zt} {Y : Addr → Prop} {H : Hp}
theorem vw1 {ds : List D} {x : V} (h : VwL Z Y H ds [x]) : ∃ d, ds = [d] ∧ Vw Z Y H d x := by
  match ds, h with
  | [], h => cases h
  | [d], ⟨v, vr, e, r, h⟩ => cases e; exact ⟨d, rfl, r⟩
  | d :: d2 :: _, ⟨v, vr, e, r, h⟩ => cases e; obtain ⟨_, _, e, _⟩ := h; cases e
theorem vw2 {ds : List D} {x y : V} (h : VwL Z Y H ds [x, y]) : ∃ d e, ds = [d, e] ∧ Vw Z Y H d x ∧ Vw Z Y H e y := by
  match ds, h with
  | [], h => cases h
  | d :: ds, ⟨v, vr, e, r, h⟩ =>
    cases e
    obtain ⟨d2, rfl, r2⟩ := vw1 h
    exact ⟨d, d2, rfl, r, r2⟩
theorem rep_int {i : Int} : Rep Z Y H (.int i) (.int i) := by simp only [Rep]
theorem rep_bl {i : Bool} : Rep Z Y H (.bl i) (.bl i) := by simp only [Rep]
theorem rep_str {i : Str} : Rep Z Y H (.str i) (.str i) := by simp only [Rep]
theorem rep_non : Rep Z Y H .non .non := by simp only [Rep]
theorem rep_lst {ds : List D} {vs : List V} {p : Addr} (hx : ∀ a, Y a → H a ≠ none) (np : H p = none) (r : RepL Z Y H ds vs) : Rep Z Y (upd H p (.lst vs)) (.lst ds) (.ref p) := by
  simp only [Rep]
  exact ⟨p, vs, rfl, fun q => hx p q np, upd_same, r.mono (Fw.same (same_new np))⟩
theorem rep_tup {ds : List D} {vs : List V} {p : Addr} (hx : ∀ a, Y a → H a ≠ none) (np : H p = none) (r : RepL Z Y H ds vs) : Rep Z Y (upd H p (.tup vs)) (.tup ds) (.ref p) := by
  simp only [Rep]
  exact ⟨p, vs, rfl, .inl ⟨fun q => hx p q np, upd_same⟩, r.mono (Fw.same (same_new np))⟩
theorem rep_of_tup {ds : List D} {v : V} (h : Vw Z Y H (.tup ds) v) : Rep Z Y H (.tup ds) v := by
  rcases h with h | ⟨o, L, q, h⟩
  · exact h
  · cases o <;> cases q

mutual
theorem rep_dp : ∀ {d : D} {v : V} {p : PyData}, Rep Z Y H d v → d.toP = some p → Dp Z.K H v p
  | .non, v, p, h, e => by simp only [Rep] at h; simp only [D.toP] at e; cases e; subst h; exact .non
  | .bl b, v, p, h, e => by simp only [Rep] at h; simp only [D.toP] at e; cases e; subst h; exact .bl b
  | .int b, v, p, h, e => by simp only [Rep] at h; simp only [D.toP] at e; cases e; subst h; exact .int b
  | .str b, v, p, h, e => by simp only [Rep] at h; simp only [D.toP] at e; cases e; subst h; exact .str b
  | .tup ds, v, p, h, e => by
    simp only [Rep] at h
    obtain ⟨a, vs, rfl, t, r⟩ := h
    simp only [D.toP] at e
    cases q : toPL ds with
    | none => rw [q] at e; cases e
    | some ps => rw [q] at e; cases e; exact .tup t.sq (rep_dpL r q)
  | .lst ds, v, p, h, e => by
    simp only [Rep] at h
    obtain ⟨a, vs, rfl, n, t, r⟩ := h
    simp only [D.toP] at e
    cases q : toPL ds with
    | none => rw [q] at e; cases e
    | some ps => rw [q] at e; cases e; exact .lst (.of t) (rep_dpL r q)
  | .dic _ _, v, p, h, e => by simp only [D.toP] at e; cases e
  | .dit _ _, v, p, h, e => by simp only [D.toP] at e; cases e
  | .ins _ _ _, v, p, h, e => by simp only [D.toP] at e; cases e
  | .fn _, v, p, h, e => by simp only [D.toP] at e; cases e
  | .scr _, v, p, h, e => by simp only [D.toP] at e; cases e
theorem rep_dpL : ∀ {ds : List D} {vs : List V} {ps : List PyData}, RepL Z Y H ds vs → toPL ds = some ps → DpAll Z.K H vs ps
  | [], vs, ps, h, e => by simp only [RepL] at h; simp only [toPL] at e; cases e; subst h; exact .nil
  | d :: ds, vs, ps, h, e => by
    simp only [RepL] at h
    obtain ⟨v, vr, rfl, r, h⟩ := h
    simp only [toPL] at e
    cases q : D.toP d with
    | none => rw [q] at e; cases e
    | some p =>
      cases q2 : toPL ds with
      | none => rw [q, q2] at e; cases e
      | some pr => rw [q, q2] at e; cases e; exact .cons (rep_dp r q) (rep_dpL h q2)
end
theorem vw_dp {d : D} {v : V} {p : PyData} (h : Vw Z Y H d v) (e : d.toP = some p) : Dp Z.K H v p := by
  rcases h with h | ⟨o, L, q, h⟩
  · exact rep_dp h e
  · cases o with
    | lst ds =>
      cases q
      obtain ⟨a, vs, rfl, _, t, r⟩ := h
      simp only [D.toP] at e
      cases q : toPL ds with
      | none => rw [q] at e; cases e
      | some ps => rw [q] at e; cases e; exact .lst (.of t) (rep_dpL r q)
    | _ => cases q <;> cases e
end

def gAdd : List D → Option D
  | [.int i, .int j] => some (.int (i + j))
  | [.str x, .str y] => if x.length + y.length ≤ lim then some (.str (x ++ y)) else none
  | [.lst xs, .lst ys] => if xs.length + ys.length ≤ lim then some (.lst (xs ++ ys)) else none
  | [.tup xs, .tup ys] => if xs.length + ys.length ≤ lim then some (.tup (xs ++ ys)) else none
  | _ => none
def gSub : List D → Option D
  | [.int i, .int j] => some (.int (i - j))
  | _ => none
def small (i : Int) : Bool := decide (i.natAbs.log2 < 4000)
def gMul : List D → Option D
  | [.int i, .int j] => if small i && small j then some (.int (i * j)) else none
  | [.lst xs, .int k] => if (0 ≤ k ∧ k ≤ 10000) ∧ xs.length ≤ 100 then some (.lst (List.replicate k.toNat xs).flatten) else none
  | [.str z, .int k] => if (0 ≤ k ∧ k ≤ 1000) ∧ z.length ≤ 100 then some (.str (Txt.mul z k)) else none
  | [.tup xs, .int k] => if (0 ≤ k ∧ k ≤ 1000) ∧ xs.length ≤ 1000 ∧ 1 ≤ xs.length then some (.tup (List.replicate k.toNat xs).flatten) else none
  | _ => none
def gDiv : List D → Option D
  | [.int i, .int j] => if 0 < j ∧ small j then some (.int (i / j)) else none
  | _ => none
def gMod : List D → Option D
  | [.int i, .int j] => if 0 < j then some (.int (i % j)) else none
  | _ => none
def gPow : List D → Option D
  | [.int i, .int j] => if 0 ≤ j ∧ j ≤ 1000 ∧ i.natAbs < 2 ^ 64 then some (.int (i ^ j.toNat)) else none
  | _ => none
def gNeg : List D → Option D
  | [.int i] => some (.int (-i))
  | _ => none
def gLe : List D → Option D
  | [.int i, .int j] => some (.bl (decide (i ≤ j)))
  | _ => none
def gGt : List D → Option D
  | [.int i, .int j] => some (.bl (decide (j < i)))
  | _ => none
def gGe : List D → Option D
  | [.int i, .int j] => some (.bl (decide (j ≤ i)))
  | _ => none
def dok (d : D) : Option PyData := d.toP.bind fun p => if SeqAt.shaped p then some p else none
def gEq : List D → Option D
  | [d, e] => (dok d).bind fun p => (dok e).bind fun q => some (.bl (PyData.eqv p q))
  | _ => none
def gNe : List D → Option D
  | [d, e] => (dok d).bind fun p => (dok e).bind fun q => some (.bl (!PyData.eqv p q))
  | _ => none
section
variable {X : Cx} {Z : Zt} {Y : Addr → Prop} {H : Hp}
theorem od_add (hK : X.K = Z.K) : OpR X (binaryOp .Add) (rD2 Z gAdd) := by
  intro pins s σ H x y v u Q I rx ry h
  obtain ⟨Xs, ds, d, hx, hv, hg, q⟩ := h
  obtain ⟨d1, d2, rfl, h1, h2⟩ := vw2 hv
  unfold gAdd at hg
  split at hg
  · rename_i i j e
    cases e; cases hg
    exact op_add pins s σ H x y v u Q I rx ry ⟨i, j, vw_int h1, vw_int h2, q _ H (Same.refl H) rep_int⟩
  · rename_i i j e
    cases e
    split at hg
    · rename_i hl
      cases hg
      exact op_add_str pins s σ H x y v u Q I rx ry ⟨i, j, vw_str h1, vw_str h2, lim_line hl, q _ H (Same.refl H) rep_str⟩
    · cases hg
  · rename_i i j e
    cases e
    split at hg
    · rename_i hl
      cases hg
      obtain ⟨a, vs, rfl, ha, r1⟩ := vw_lst h1
      obtain ⟨b, us, rfl, hb, r2⟩ := vw_lst h2
      exact op_cat pins s σ H _ _ v u Q I rx ry ⟨a, b, vs, us, rfl, rfl, ha, hb, by rw [← r1.length, ← r2.length]; exact lim_line hl, fun p np => q _ _ (same_new np) (rep_lst hx np (r1.app r2))⟩
    · cases hg
  · rename_i i j e
    cases e
    split at hg
    · rename_i hl
      cases hg
      have t1 := rep_of_tup h1
      have t2 := rep_of_tup h2
      obtain ⟨a, vs, rfl, ha, r1⟩ := vw_tup h1
      obtain ⟨b, us, rfl, hb, r2⟩ := vw_tup h2
      have e1 := r1.length
      have e2 := r2.length
      refine op_catA pins s σ H _ _ v u Q I rx ry ⟨a, b, vs, us, rfl, rfl, by rw [hK]; exact ha, by rw [hK]; exact hb, by rw [← e1, ← e2]; exact lim_line hl, fun z => ?_, fun z1 z2 => ?_, fun z1 z2 p np => q _ _ (same_new np) (rep_tup hx np (r1.app r2))⟩
      · have : i = [] := List.eq_nil_of_length_eq_zero (by rw [e1, z]; rfl)
        subst this
        exact q _ H (Same.refl H) t2
      · have : j = [] := List.eq_nil_of_length_eq_zero (by rw [e2, z2]; rfl)
        subst this
        rw [List.append_nil] at q
        exact q _ H (Same.refl H) t1
    · cases hg
  · cases hg
theorem od_sub : OpR X (binaryOp .Sub) (rD2 Z gSub) := by
  intro pins s σ H x y v u Q I rx ry h
  obtain ⟨Xs, ds, d, hx, hv, hg, q⟩ := h
  obtain ⟨d1, d2, rfl, h1, h2⟩ := vw2 hv
  unfold gSub at hg
  split at hg
  · rename_i i j e
    cases e; cases hg
    exact op_sub pins s σ H x y v u Q I rx ry ⟨i, j, vw_int h1, vw_int h2, q _ H (Same.refl H) rep_int⟩
  · cases hg
theorem mulW_of {i j : Int} (h : (small i && small j) = true) : CMulW i j := by
  have h1 := (Bool.and_eq_true_iff.mp h).1
  have h2 := (Bool.and_eq_true_iff.mp h).2
  have h1 := of_decide_eq_true h1
  have h2 := of_decide_eq_true h2
  show i.natAbs.log2 + j.natAbs.log2 < 1000000
  omega
theorem od_mul (hK : X.K = Z.K) : OpR X (binaryOp .Mult) (rD2 Z gMul) := by
  intro pins s σ H x y v u Q I rx ry h
  obtain ⟨Xs, ds, d, hx, hv, hg, q⟩ := h
  obtain ⟨d1, d2, rfl, h1, h2⟩ := vw2 hv
  unfold gMul at hg
  split at hg
  · rename_i i j e
    cases e
    split at hg
    · rename_i hs
      cases hg
      exact op_mulW pins s σ H x y v u Q I rx ry ⟨i, j, vw_int h1, vw_int h2, mulW_of hs, q _ H (Same.refl H) rep_int⟩
    · cases hg
  · rename_i xs k e
    cases e
    split at hg
    · rename_i hs
      cases hg
      obtain ⟨a, vs, rfl, ha, r1⟩ := vw_lst h1
      cases vw_int h2
      have hz : vs.length * k.toNat ≤ sizeLine := by
        rw [← r1.length]
        exact lim_line (Nat.le_trans (Nat.mul_le_mul hs.2 (show k.toNat ≤ 10000 by omega)) (by decide))
      refine op_rep pins s σ H _ _ v u Q I rx ry ⟨a, k, vs, rfl, rfl, ha, by omega, by omega, hz, fun p np => q _ _ (same_new np) (rep_lst hx np ?_)⟩
      have rep : ∀ n : Nat, RepL Z Xs H (List.replicate n xs).flatten (List.replicate n vs).flatten := fun n => by
        induction n with
        | zero => simp only [List.replicate_zero, List.flatten_nil, RepL]
        | succ n ih => simp only [List.replicate_succ, List.flatten_cons]; exact r1.app ih
      exact rep _
    · cases hg
  · rename_i z k e
    cases e
    split at hg
    · rename_i hs
      cases hg
      cases vw_str h1
      cases vw_int h2
      refine op_mulStr pins s σ H _ _ v u Q I rx ry ⟨z, k, rfl, rfl, ⟨?_, fun h1 h2 => ?_, fun h1 h2 => ?_⟩, q _ H (Same.refl H) rep_str⟩
      · rw [decide_eq_false (by omega), decide_eq_false (by omega)]; rfl
      · have hk : k ≤ 1000 := hs.1.2
        have h3 : (1000 : Int) * 1000 ≤ (2 ^ 63 - 1) := by decide
        have h4 : (1000 : Int) ≤ (2 ^ 63 - 1) / k := (Int.le_ediv_iff_mul_le (by omega)).2 (by omega)
        have := hs.2
        omega
      · unfold PySem.Builtin.Str.tooLong
        have : z.length * k.toNat ≤ 100 * 1000 := Nat.mul_le_mul hs.2 (by omega)
        rw [sizeLine_eq]
        exact decide_eq_false (by omega)
    · cases hg
  · rename_i xs k e
    cases e
    split at hg
    · rename_i hs
      cases hg
      have t1 := rep_of_tup h1
      obtain ⟨a, vs, rfl, ha, r1⟩ := vw_tup h1
      cases vw_int h2
      have e1 := r1.length
      have hne : vs ≠ [] := fun z => by
        rw [z, List.length_nil] at e1
        have := hs.2.2
        omega
      rw [← hK] at ha
      by_cases k0 : k = 0
      · subst k0
        refine op_repT0 pins s σ H _ _ v u Q I rx ry ⟨a, vs, rfl, rfl, ha, hne, fun p np => q _ _ (same_new np) ?_⟩
        exact rep_tup hx np (by simp [RepL])
      · by_cases k1 : k = 1
        · subst k1
          refine op_repT1 pins s σ H _ _ v u Q I rx ry ⟨a, vs, rfl, rfl, ha, q _ H (Same.refl H) ?_⟩
          simpa using t1
        · refine op_repT pins s σ H _ _ v u Q I rx ry ⟨a, k, vs, rfl, rfl, ha, hne, by omega, by omega, by rw [← e1]; exact hs.2.1, fun p np => q _ _ (same_new np) (rep_tup hx np ?_)⟩
          have rep : ∀ n : Nat, RepL Z Xs H (List.replicate n xs).flatten (List.replicate n vs).flatten := fun n => by
            induction n with
            | zero => simp only [List.replicate_zero, List.flatten_nil, RepL]
            | succ n ih => simp only [List.replicate_succ, List.flatten_cons]; exact r1.app ih
          exact rep _
    · cases hg
  · cases hg
theorem od_div : OpR X (binaryOp .FloorDiv) (rD2 Z gDiv) := by
  intro pins s σ H x y v u Q I rx ry h
  obtain ⟨Xs, ds, d, hx, hv, hg, q⟩ := h
  obtain ⟨d1, d2, rfl, h1, h2⟩ := vw2 hv
  unfold gDiv at hg
  split at hg
  · rename_i i j e
    cases e
    split at hg
    · rename_i hs
      cases hg
      have h9 : j.natAbs.log2 < 4000 := of_decide_eq_true hs.2
      exact op_fdivW pins s σ H x y v u Q I rx ry ⟨i, j, vw_int h1, vw_int h2, ⟨hs.1, by omega⟩, q _ H (Same.refl H) rep_int⟩
    · cases hg
  · cases hg
theorem od_mod : OpR X (binaryOp .Mod) (rD2 Z gMod) := by
  intro pins s σ H x y v u Q I rx ry h
  obtain ⟨Xs, ds, d, hx, hv, hg, q⟩ := h
  obtain ⟨d1, d2, rfl, h1, h2⟩ := vw2 hv
  unfold gMod at hg
  split at hg
  · rename_i i j e
    cases e
    split at hg
    · rename_i hs
      cases hg
      exact op_mod pins s σ H x y v u Q I rx ry ⟨i, j, vw_int h1, vw_int h2, hs, q _ H (Same.refl H) rep_int⟩
    · cases hg
  · cases hg
theorem od_pow : OpR X (binaryOp .Pow) (rD2 Z gPow) := by
  intro pins s σ H x y v u Q I rx ry h
  obtain ⟨Xs, ds, d, hx, hv, hg, q⟩ := h
  obtain ⟨d1, d2, rfl, h1, h2⟩ := vw2 hv
  unfold gPow at hg
  split at hg
  · rename_i i j e
    cases e
    split at hg
    · rename_i hs
      cases hg
      exact op_pow pins s σ H x y v u Q I rx ry ⟨i, j, vw_int h1, vw_int h2, ⟨hs.1, by omega, hs.2.2⟩, q _ H (Same.refl H) rep_int⟩
    · cases hg
  · cases hg
theorem od_neg : UnR X (unaryOp .USub) fun x H Q => rD Z gNeg [x] H Q := by
  intro pins s σ H x v Q I rx h
  obtain ⟨Xs, ds, d, hx, hv, hg, q⟩ := h
  obtain ⟨d1, rfl, h1⟩ := vw1 hv
  unfold gNeg at hg
  split at hg
  · rename_i i e
    cases e; cases hg
    exact un_neg pins s σ H x v Q I rx ⟨i, vw_int h1, q _ H (Same.refl H) rep_int⟩
  · cases hg
theorem od_gt : OpR X (compareOp .Gt) (rD2 Z gGt) := by
  intro pins s σ H x y v u Q I rx ry h
  obtain ⟨Xs, ds, d, hx, hv, hg, q⟩ := h
  obtain ⟨d1, d2, rfl, h1, h2⟩ := vw2 hv
  unfold gGt at hg
  split at hg
  · rename_i i j e
    cases e; cases hg
    exact op_gt pins s σ H x y v u Q I rx ry ⟨i, j, vw_int h1, vw_int h2, q _ H (Same.refl H) rep_bl⟩
  · cases hg
theorem od_ge : OpR X (compareOp .GtE) (rD2 Z gGe) := by
  intro pins s σ H x y v u Q I rx ry h
  obtain ⟨Xs, ds, d, hx, hv, hg, q⟩ := h
  obtain ⟨d1, d2, rfl, h1, h2⟩ := vw2 hv
  unfold gGe at hg
  split at hg
  · rename_i i j e
    cases e; cases hg
    exact op_ge pins s σ H x y v u Q I rx ry ⟨i, j, vw_int h1, vw_int h2, q _ H (Same.refl H) rep_bl⟩
  · cases hg
theorem dok_ok {d : D} {p : PyData} (h : dok d = some p) : d.toP = some p ∧ SeqAt.shaped p = true := by
  unfold dok at h
  cases e : d.toP with
  | none => rw [e] at h; cases h
  | some r =>
    rw [e] at h
    simp only [Option.bind_some] at h
    split at h
    · rename_i hs
      cases h
      exact ⟨rfl, hs⟩
    · cases h
theorem od_eq (hK : X.K = Z.K) (hu : X.A.units + 64 < cLine) : OpR X (compareOp .Eq) (rD2 Z gEq) := by
  intro pins s σ H x y v u Q I rx ry h
  obtain ⟨Xs, ds, d, hx, hv, hg, q⟩ := h
  obtain ⟨d1, d2, rfl, h1, h2⟩ := vw2 hv
  simp only [gEq] at hg
  cases e1 : dok d1 with
  | none => rw [e1] at hg; cases hg
  | some p1 =>
    cases e2 : dok d2 with
    | none => rw [e1, e2] at hg; cases hg
    | some p2 =>
      rw [e1, e2] at hg
      cases hg
      obtain ⟨t1, s1⟩ := dok_ok e1
      obtain ⟨t2, s2⟩ := dok_ok e2
      exact op_eqD hu pins s σ H x y v u Q I rx ry ⟨p1, p2, by rw [hK]; exact vw_dp h1 t1, by rw [hK]; exact vw_dp h2 t2, s1, s2, q _ H (Same.refl H) rep_bl⟩
theorem od_ne (hK : X.K = Z.K) (hu : X.A.units + 64 < cLine) : OpR X (compareOp .NotEq) (rD2 Z gNe) := by
  intro pins s σ H x y v u Q I rx ry h
  obtain ⟨Xs, ds, d, hx, hv, hg, q⟩ := h
  obtain ⟨d1, d2, rfl, h1, h2⟩ := vw2 hv
  simp only [gNe] at hg
  cases e1 : dok d1 with
  | none => rw [e1] at hg; cases hg
  | some p1 =>
    cases e2 : dok d2 with
    | none => rw [e1, e2] at hg; cases hg
    | some p2 =>
      rw [e1, e2] at hg
      cases hg
      obtain ⟨t1, s1⟩ := dok_ok e1
      obtain ⟨t2, s2⟩ := dok_ok e2
      exact op_neD hu pins s σ H x y v u Q I rx ry ⟨p1, p2, by rw [hK]; exact vw_dp h1 t1, by rw [hK]; exact vw_dp h2 t2, s1, s2, q _ H (Same.refl H) rep_bl⟩
end
end PD

set_option linter.all false
set_option maxRecDepth 100000
namespace PD
open PySem PySem.Spec PyProof.Rows L2

def D.isNon : D → Bool
  | .non => true
  | _ => false
def gIsN : List D → Option D
  | [d, .non] => some (.bl d.isNon)
  | _ => none
def gNotN : List D → Option D
  | [d, .non] => some (.bl (!d.isNon))
  | _ => none
def isNonP : PyData → Bool
  | .none => true
  | _ => false
def ord2 (d e : D) : Option (PyData × PyData) := (dok d).bind fun p => (dok e).bind fun q => if PySem.W.alike p q && !isNonP p then some (p, q) else none
def gLt : List D → Option D
  | [d, e] => (ord2 d e).map fun pq => .bl (PySem.W.dataLt pq.1 pq.2)
  | _ => none
def gIn : List D → Option D
  | [.str a, .str b] => some (.bl (!(Builtin.Str.occurrences b a 0 b.length 1).isEmpty))
  | [d, .lst xs] => (dok d).bind fun p => (dok (.lst xs)).bind fun q => match q with
    | .list ps => some (.bl (ps.any fun z => PyData.eqv z p))
    | _ => none
  | [d, .tup xs] => (dok d).bind fun p => (dok (.tup xs)).bind fun q => match q with
    | .tuple ps => some (.bl (ps.any fun z => PyData.eqv z p))
    | _ => none
  | _ => none
def cutD {α : Type} (xs : List α) (lo hi : Option Int) : List α := (xs.drop (HT.sIx xs.length 0 lo)).take (HT.sIx xs.length xs.length hi - HT.sIx xs.length 0 lo)
def gSl (lo hi : Option Int) : D → Option D
  | .lst xs => some (.lst (cutD xs lo hi))
  | .tup xs => some (.tup (cutD xs lo hi))
  | .str z => if z.length ≤ lim then some (.str (cutS z lo hi)) else none
  | _ => none
def gIx : List D → Option D
  | [.lst xs, .int i] => atI xs i
  | [.tup xs, .int i] => atI xs i
  | [.str z, .int i] => if z.length ≤ lim then (atI z.cps.toList i).map fun c => .str ⟨#[c]⟩ else none
  | [.scr xs, .int i] => (atI xs i).map .int
  | _ => none

section
variable {X : Cx} {Z : Zt} {Y : Addr → Prop} {H : Hp}
theorem toP_lst {xs : List D} {p : PyData} (h : (D.lst xs).toP = some p) : ∃ ps, p = .list ps ∧ toPL xs = some ps := by
  simp only [D.toP] at h
  cases e : toPL xs with
  | none => rw [e] at h; cases h
  | some ps => rw [e] at h; cases h; exact ⟨ps, rfl, rfl⟩
theorem toP_tup {xs : List D} {p : PyData} (h : (D.tup xs).toP = some p) : ∃ ps, p = .tuple ps ∧ toPL xs = some ps := by
  simp only [D.toP] at h
  cases e : toPL xs with
  | none => rw [e] at h; cases h
  | some ps => rw [e] at h; cases h; exact ⟨ps, rfl, rfl⟩
theorem od_in (hK : X.K = Z.K) (hu : X.A.units + 65 < cLine) : OpR X (compareOp .In) (rD2 Z gIn) := by
  intro pins s σ H x y v u Q I rx ry h
  obtain ⟨Xs, ds, d, hx, hv, hg, q⟩ := h
  obtain ⟨d1, d2, rfl, h1, h2⟩ := vw2 hv
  unfold gIn at hg
  split at hg
  · rename_i i j e
    cases e; cases hg
    exact op_in_str pins s σ H x y v u Q I rx ry ⟨_, _, vw_str h1, vw_str h2, q _ H (Same.refl H) rep_bl⟩
  · rename_i d' xs e
    cases e
    cases e1 : dok d1 with
    | none => rw [e1] at hg; cases hg
    | some p1 =>
      cases e2 : dok (.lst xs) with
      | none => rw [e1, e2] at hg; cases hg
      | some p2 =>
        obtain ⟨t1, s1⟩ := dok_ok e1
        obtain ⟨t2, s2⟩ := dok_ok e2
        obtain ⟨ps, rfl, _⟩ := toP_lst t2
        rw [e1, e2] at hg
        cases hg
        exact op_inD hu pins s σ H x y v u Q I rx ry ⟨p1, ps, by rw [hK]; exact vw_dp h1 t1, by rw [hK]; exact vw_dp h2 t2, s1, s2, q _ H (Same.refl H) rep_bl⟩
  · rename_i d' xs e
    cases e
    cases e1 : dok d1 with
    | none => rw [e1] at hg; cases hg
    | some p1 =>
      cases e2 : dok (.tup xs) with
      | none => rw [e1, e2] at hg; cases hg
      | some p2 =>
        obtain ⟨t1, s1⟩ := dok_ok e1
        obtain ⟨t2, s2⟩ := dok_ok e2
        obtain ⟨ps, rfl, _⟩ := toP_tup t2
        rw [e1, e2] at hg
        cases hg
        have a1 : Dp X.K H x p1 := by rw [hK]; exact vw_dp h1 t1
        have a2 : Dp X.K H y (.tuple ps) := by rw [hK]; exact vw_dp h2 t2
        obtain ⟨as, r1⟩ := Dp.reads I _ x v a1 rx
        obtain ⟨bs, r2⟩ := Dp.reads I _ y u a2 ry
        exact SeqAt.in_tuple_reads r2 r1 (SeqAt.canLay_of_shaped s2) (SeqAt.canLay_of_shaped s1) (room_in_shaped s1 hu) ⟨.bl _, H, I, rfl, q _ H (Same.refl H) rep_bl⟩
  · cases hg
theorem RepL.atI {ds : List D} {vs : List V} {i : Int} {d : D} (r : RepL Z Y H ds vs) (h : atI ds i = some d) : ∃ v, L2.atI vs i = some v ∧ Rep Z Y H d v := by
  unfold L2.atI at h ⊢
  rw [← r.length]
  cases e : ixN ds.length i with
  | none => rw [e] at h; cases h
  | some j =>
    rw [e] at h
    exact r.get h
theorem od_ix (hK : X.K = Z.K) : IxR X (rD2 Z gIx) := by
  intro a0 b0 pins s σ H x y v u Q I rx ry h
  obtain ⟨Xs, ds, d, hx, hv, hg, q⟩ := h
  obtain ⟨d1, d2, rfl, h1, h2⟩ := vw2 hv
  unfold gIx at hg
  split at hg
  · rename_i xs i e
    cases e
    obtain ⟨a, vs, rfl, ha, r⟩ := vw_lst h1
    obtain ⟨w, e2, rw_⟩ := r.atI hg
    exact ix_list a0 b0 pins s σ H _ y v u Q I rx ry ⟨a, vs, i, w, rfl, vw_int h2, .of ha, e2, q _ H (Same.refl H) rw_⟩
  · rename_i xs i e
    cases e
    obtain ⟨a, vs, rfl, ha, r⟩ := vw_tup h1
    obtain ⟨w, e2, rw_⟩ := r.atI hg
    exact ix_tup a0 b0 pins s σ H _ y v u Q I rx ry ⟨a, vs, i, w, rfl, vw_int h2, by rw [hK]; exact ha, e2, q _ H (Same.refl H) rw_⟩
  · rename_i z i e
    cases e
    split at hg
    · rename_i hz
      cases e2 : atI z.cps.toList i with
      | none => rw [e2] at hg; cases hg
      | some c =>
        rw [e2] at hg
        cases hg
        exact ix_str a0 b0 pins s σ H x y v u Q I rx ry ⟨z, i, c, vw_str h1, vw_int h2, lim_line hz, e2, q _ H (Same.refl H) rep_str⟩
    · cases hg
  · rename_i xs i e
    cases e
    cases e2 : atI xs i with
    | none => rw [e2] at hg; cases hg
    | some c =>
      rw [e2] at hg
      cases hg
      have hr : ∃ a, x = .ref a ∧ SqL X.K H a (xs.map V.int) := by
        rcases h1 with h1 | ⟨o, L, q, _⟩
        · simp only [Rep] at h1
          obtain ⟨a, e, t⟩ := h1
          exact ⟨a, e, by rw [hK]; exact t.sq⟩
        · cases o <;> cases q
      obtain ⟨a, rfl, t⟩ := hr
      have e3 : atI (xs.map V.int) i = some (.int c) := by
        unfold L2.atI at e2 ⊢
        rw [List.length_map]
        cases e4 : ixN xs.length i with
        | none => rw [e4] at e2; cases e2
        | some j =>
          rw [e4] at e2
          simp only [Option.bind_some] at e2 ⊢
          rw [List.getElem?_map, e2]
          rfl
      exact ix_list a0 b0 pins s σ H _ y v u Q I rx ry ⟨a, _, i, _, rfl, vw_int h2, t, e3, q _ H (Same.refl H) rep_int⟩
  · cases hg
end
end PD

set_option linter.all false
set_option maxRecDepth 100000
namespace PD
open PySem PySem.Spec PyProof.Rows L2

section
variable {Z : Zt} {Γ : Gm}
theorem tabs_upd {H : Hp} {p : Addr} {o o' : HO} (ho : H p = some o) (ht : ∀ ps, o ≠ .tbl ps) (hc : ∀ c q, o ≠ LamX.CodeO c q) {P : Addr} {q : Str} (h : LamX.TabS H P q) : LamX.TabS (upd H p o') P q := by
  obtain ⟨ps, e, ok, k⟩ := h
  refine ⟨ps, ?_, ok, fun pos cv hcv => ?_⟩
  · rw [upd_ne fun z => ?_]
    · exact e
    · rw [z, ho] at e; exact ht ps (Option.some.inj e)
  · obtain ⟨c, e1, e2⟩ := k pos cv hcv
    refine ⟨c, e1, ?_⟩
    rw [upd_ne fun z => ?_]
    · exact e2
    · rw [z, ho] at e2; exact hc _ q (Option.some.inj e2)
theorem lst_ncode {xs : List V} (c : Addr) (q : Str) : HO.lst xs ≠ LamX.CodeO c q := fun z => by unfold LamX.CodeO at z; cases z
theorem OwnRep.notup {X : Addr → Prop} {H : Hp} {o : O} {v : V} {L : List Addr} (r : OwnRep Z X H o v L) {a : Addr} (hj : a ∈ L) {xs : List V} (h : H a = some (.tup xs)) : False := by
  have fdl : ∀ (fs : List Fd) (vs : List V) (As : List Addr), FdL Z X H fs vs As → a ∉ As := by
    intro fs
    induction fs with
    | nil => intro vs As h h2; rw [h.2] at h2; cases h2
    | cons f fs ih =>
      intro vs As h2 h3
      cases f with
      | d x =>
        obtain ⟨_, vr, _, _, h2⟩ := h2
        exact ih vr As h2 h3
      | l ds =>
        obtain ⟨b, vr, ws, Ar, _, e2, e3, _, h2⟩ := h2
        subst e2
        rcases List.mem_cons.mp h3 with z | z
        · rw [z, e3] at h; cases h
        · exact ih vr Ar h2 z
  cases o with
  | lst ds =>
    obtain ⟨b, vs, _, e2, e3, _⟩ := r
    rw [e2] at hj
    rw [List.mem_singleton.mp hj, e3] at h; cases h
  | dic ks ds =>
    obtain ⟨b, vs, _, e2, _, e3, _⟩ := r
    rw [e2] at hj
    rw [List.mem_singleton.mp hj, e3] at h; cases h
  | dit ks ds =>
    obtain ⟨b, vs, _, e2, _, e3, _⟩ := r
    rw [e2] at hj
    rw [List.mem_singleton.mp hj, e3] at h; cases h
  | ins c ns fs =>
    obtain ⟨b, C, dx, vs, As, _, e2, _, _, e3, r⟩ := r
    rw [e2] at hj
    rcases List.mem_cons.mp hj with z | z
    · rw [z, e3] at h; cases h
    · exact fdl _ _ _ r z
  | dls ks fs =>
    obtain ⟨b, vs, As, _, e2, _, e3, r⟩ := r
    rw [e2] at hj
    rcases List.mem_cons.mp hj with z | z
    · rw [z, e3] at h; cases h
    · exact fdl _ _ _ r z
def Gm.NT (Γ : Gm) : Prop := Γ.B = [] ∧ ∀ a, Γ.X0 a → ∃ o, (Γ.H0 a = some o ∨ Γ.pin a o) ∧ ∀ xs, o ≠ .tup xs
theorem Rl.nt {s : S} {Lv : Nat → List Addr} {σ : L2.St} {H : Hp} (R : Rl Z Γ s Lv σ H) (hn : Γ.NT) {a : Addr} (h : Γ.X Lv a) (xs : List V) : H a ≠ some (.tup xs) := fun e => by
  rcases h with h | ⟨j, h⟩
  · obtain ⟨o, h1 | h1, h2⟩ := hn.2 a h
    · by_cases ht : ∃ ps, o = .tbl ps
      · obtain ⟨ps, rfl⟩ := ht
        obtain ⟨qs, e2⟩ := R.ktbl a ps h1
        rw [e2] at e; cases e
      · rw [R.keep a o h1 (by rw [hn.1]; simp) fun ps z => ht ⟨ps, z⟩] at e
        exact h2 xs (Option.some.inj e)
    · rw [(R.pn a o h1).2.2.2] at e
      exact h2 xs (Option.some.inj e)
  · have hj' : j < s.length := by
      refine Nat.lt_of_not_le fun q => ?_
      rw [R.out j q] at h; cases h
    have q := R.sl j s[j] (List.getElem?_eq_getElem hj')
    generalize s[j] = y at q
    cases y with
    | no => rw [show Lv j = [] from q] at h; cases h
    | fz d => rw [q.1] at h; cases h
    | ow o =>
      obtain ⟨v, _, r⟩ := q
      exact r.notup h e
def GC (Γ : Gm) (Y : Addr → Prop) (H : Hp) : Prop := (∀ a od u, Γ.pin a (.frz od u) → H a = some (.frz od u)) ∧ (Γ.NT → ∀ a, Y a → ∀ xs, H a ≠ some (.tup xs))
def Alv (C : (Addr → Prop) → Hp → Prop) (Y : Addr → Prop) (H : Hp) : Prop := (∀ a, Y a → H a ≠ none) ∧ C Y H
theorem Rl.alv {Γ1 : Gm} {s : S} {Lv : Nat → List Addr} {σ : L2.St} {H : Hp} (R : Rl Z Γ1 s Lv σ H) (h : ∀ a od u, Γ.pin a (.frz od u) → Γ1.pin a (.frz od u)) (hn : Γ.NT → Γ1.NT) : Alv (GC Γ) (Γ1.X Lv) H :=
  ⟨fun a q => R.xs q, fun a od u q => (R.pn a _ (h a od u q)).2.2.2, fun q a h => R.nt (hn q) h⟩
theorem Gm.NT.blk {p : Addr} {acc : List V} (h : Γ.NT) : (Γ.blk p acc).NT := ⟨h.1, fun a ha => by
  rcases ha with ha | ha
  · obtain ⟨o, h1, h2⟩ := h.2 a ha
    exact ⟨o, h1.imp id .inl, h2⟩
  · exact ⟨.lst acc, .inr (.inr ⟨List.mem_singleton.mp ha, rfl⟩), fun xs z => by cases z⟩⟩
structure ItR (Z : Zt) (C : (Addr → Prop) → Hp → Prop) (Y : Addr → Prop) (H : Hp) (J : It) (ds : List D) : Prop where
  go : ∀ Y2 H2, Fw Z Y H Y2 H2 → Alv C Y2 H2 → ∀ i, i < ds.length → J.go i H2
  stop : ∀ Y2 H2, Fw Z Y H Y2 H2 → Alv C Y2 H2 → J.stop ds.length H2
  yld : ∀ Y2 H2, Fw Z Y H Y2 H2 → Alv C Y2 H2 → ∀ (i : Nat) d, ds[i]? = some d → ∀ x H3, J.yld i H2 x H3 → Same H2 H3 ∧ Rep Z Y2 H3 d x
def tI (Z : Zt) (Γ : Gm) (fi : S → R (List D)) : TI := fun σ H Rr => ∃ s Lv, Rl Z Γ s Lv σ H ∧ Po Z Γ (fun Y _ H ds J => ItR Z (GC Γ) Y H J ds) (fi s) Lv σ H Rr
theorem pi_imp {X : Cx} {tg e : Expr} {t t' : TI} (h : PI X tg e t) (k : ∀ σ H Q, t' σ H Q → t σ H Q) : PI X tg e t' := ⟨fun pins s σ H Q I q => h.run pins s σ H Q I (k σ H Q q)⟩
def isLst : W → Option (List D)
  | .d (.lst ds) => some ds
  | _ => none
def isTup : W → Option (List D)
  | .d (.tup ds) => some ds
  | _ => none
def iLst (f : S → R W) : S → R (List D) := fun s => (f s).bind fun w s1 => ofO s1 (isLst w)
def iTup (f : S → R W) : S → R (List D) := fun s => (f s).bind fun w s1 => ofO s1 (isTup w)
def iOf (g : List W → Option (List D)) (f : S → R (List W)) : S → R (List D) := fun s => (f s).bind fun ws s1 => ofO s1 (g ws)
def pairsD (xs ys : List D) : List D := (xs.zip ys).map fun p => D.tup [p.1, p.2]
def enumD (xs : List D) : List D := pairsD ((List.range xs.length).map fun (i : Nat) => D.int i) xs
def signsD (z : Str) : List D := z.cps.toList.map fun c => D.str ⟨#[c]⟩
def isStr : W → Option (List D)
  | .d (.str z) => some (signsD z)
  | _ => none
def iStrD (f : S → R W) : S → R (List D) := fun s => (f s).bind fun w s1 => ofO s1 (isStr w)

theorem fw_lst {Y Y2 : Addr → Prop} {H H2 : Hp} {a : Addr} {vs : List V} (F : Fw Z Y H Y2 H2) (n : ¬ Y a) (h : H a = some (.lst vs)) : H2 a = some (.lst vs) := F.keep a _ h n fun ps z => by cases z
theorem fw_tup {Y Y2 : Addr → Prop} {H H2 : Hp} {a : Addr} {vs : List V} (F : Fw Z Y H Y2 H2) (h : TupR Z.K Y H a vs) : TupR Z.K Y2 H2 a vs := by
  rcases h with ⟨n, h⟩ | h
  · exact .inl (at_keep F n h fun ps z => by cases z).symm
  · exact .inr h
theorem itr_list {C : (Addr → Prop) → Hp → Prop} {Y : Addr → Prop} {H : Hp} {a : Addr} {vs : List V} {ds : List D} (n : ¬ Y a) (h : H a = some (.lst vs)) (r : RepL Z Y H ds vs) : ItR Z C Y H (Itl Z.K a) ds := by
  refine ⟨fun Y2 H2 F _ i hi => ?_, fun Y2 H2 F _ => ?_, fun Y2 H2 F _ i d hd x H3 y => ?_⟩
  · have e := r.length
    exact ⟨vs, vs[i]'(by omega), .of (fw_lst F n h), by simp [show i < vs.length by omega]⟩
  · exact ⟨vs, .of (fw_lst F n h), by rw [r.length]; exact Nat.le_refl _⟩
  · obtain ⟨rfl, y⟩ := y
    obtain ⟨v, e, rv⟩ := (r.mono F).get hd
    rw [y vs (.of (fw_lst F n h))] at e
    cases e
    exact ⟨Same.refl _, rv⟩
theorem itr_tup {C : (Addr → Prop) → Hp → Prop} {Y : Addr → Prop} {H : Hp} {a : Addr} {vs : List V} {ds : List D} (h : TupR Z.K Y H a vs) (r : RepL Z Y H ds vs) : ItR Z C Y H (Itt Z.K a) ds := by
  refine ⟨fun Y2 H2 F _ i hi => ?_, fun Y2 H2 F _ => ?_, fun Y2 H2 F _ i d hd x H3 y => ?_⟩
  · have e := r.length
    exact ⟨vs, vs[i]'(by omega), (fw_tup F h).sq, by simp [show i < vs.length by omega]⟩
  · exact ⟨vs, (fw_tup F h).sq, by rw [r.length]; exact Nat.le_refl _⟩
  · obtain ⟨rfl, y⟩ := y
    obtain ⟨v, e, rv⟩ := (r.mono F).get hd
    rw [y vs (fw_tup F h).sq] at e
    cases e
    exact ⟨Same.refl _, rv⟩
theorem itr_str {C : (Addr → Prop) → Hp → Prop} {Y : Addr → Prop} {H : Hp} {z : Str} : ItR Z C Y H (Its z) (signsD z) := by
  have hl : (signsD z).length = z.cps.size := by unfold signsD; simp
  refine ⟨fun Y2 H2 F _ i h => (walk_str (z := z)).goes i H2 (by rw [← hl]; exact h) trivial, fun Y2 H2 F _ => by rw [hl]; exact (walk_str (z := z)).stops H2 trivial, fun Y2 H2 F _ i d hd x H3 y => ?_⟩
  have hi : i < z.cps.size := by
    obtain ⟨h, _⟩ := List.getElem?_eq_some_iff.mp hd
    rw [hl] at h; exact h
  obtain ⟨rfl, c, e, rfl⟩ := (walk_str (z := z)).yields i H2 x H3 hi trivial y
  refine ⟨Same.refl _, ?_⟩
  unfold signsD at hd
  rw [List.getElem?_map, Array.getElem?_toList, e] at hd
  cases hd
  exact rep_str
end
section
variable {X : Cx} {Z : Zt} {Γ : Gm} {tg e e2 : Expr} {es : List Expr} {fa : S → R W} {fs : S → R (List W)} {pos : Pos}
theorem di_lst (hK : X.K = Z.K) (ha : PE X e (tE Z Γ fa)) : PI X tg e (tI Z Γ (iLst fa)) := by
  refine pi_imp (pi_list ha) fun σ H Q h => ?_
  obtain ⟨s, Lv, R0, po⟩ := h
  refine ⟨s, Lv, R0, po.bind.mono fun v H1 ⟨w, s1, Lv1, _, R1, F1, r1, po1⟩ => ?_⟩
  cases w with
  | p i => exact po1.elim
  | d x =>
    cases x with
    | lst ds =>
      have r1 : Rep Z (Γ.X Lv1) H1 (.lst ds) v := r1
      simp only [Rep] at r1
      obtain ⟨a, vs, rfl, n, ha, r⟩ := r1
      refine ⟨a, rfl, ⟨vs, .of ha⟩, ?_⟩
      rw [hK]
      exact po1.ok R1 (itr_list n ha r)
    | _ => exact po1.elim
theorem di_tup (hK : X.K = Z.K) (ha : PE X e (tE Z Γ fa)) : PI X tg e (tI Z Γ (PD.iTup fa)) := by
  refine pi_imp (pi_tup ha) fun σ H Q h => ?_
  obtain ⟨s, Lv, R0, po⟩ := h
  refine ⟨s, Lv, R0, po.bind.mono fun v H1 ⟨w, s1, Lv1, _, R1, F1, r1, po1⟩ => ?_⟩
  cases w with
  | p i => exact po1.elim
  | d x =>
    cases x with
    | tup ds =>
      have r1 : Rep Z (Γ.X Lv1) H1 (.tup ds) v := r1
      simp only [Rep] at r1
      obtain ⟨a, vs, rfl, ha, r⟩ := r1
      refine ⟨a, rfl, ⟨vs, by rw [hK]; exact ha.sq⟩, ?_⟩
      rw [hK]
      exact po1.ok R1 (itr_tup ha r)
    | _ => exact po1.elim
theorem di_str (ha : PE X e (tE Z Γ fa)) : PI X tg e (tI Z Γ (iStrD fa)) := by
  refine pi_imp (pi_str ha) fun σ H Q h => ?_
  obtain ⟨s, Lv, R0, po⟩ := h
  refine ⟨s, Lv, R0, po.bind.mono fun v H1 ⟨w, s1, Lv1, _, R1, F1, r1, po1⟩ => ?_⟩
  cases w with
  | p i => exact po1.elim
  | d x =>
    cases x with
    | str z =>
      have r1 : Rep Z (Γ.X Lv1) H1 (.str z) v := r1
      simp only [Rep] at r1
      exact ⟨z, r1, po1.ok R1 itr_str⟩
    | _ => exact po1.elim
def tG (Z : Zt) (Γ : Gm) (ks : List Nat) (t : D → S → R Unit) : TG := fun v σ H Q => ∃ s Lv d, Rl Z Γ s Lv σ H ∧ Rep Z (Γ.X Lv) H d v ∧ match t d s with
  | .ok _ s' => ∀ σ' H' Lv', Rl Z Γ s' Lv' σ' H' → Fw Z (Γ.X Lv) H (Γ.X Lv') H' → (σ'.length = σ.length ∧ ∀ j : Nat, j ∉ ks → σ'[j]? = σ[j]?) → Q σ' H'
  | _ => False
def gN (i : Nat) : D → S → R Unit := fun d s => if i < s.length then .ok () (s.set i (.fz d)) else .st
def gsNil : List D → S → R Unit
  | [], s => .ok () s
  | _, _ => .st
def gsCons (t : D → S → R Unit) (u : List D → S → R Unit) : List D → S → R Unit
  | d :: ds, s => (t d s).bind fun _ s1 => u ds s1
  | _, _ => .st
def gT (n : Nat) (t : List D → S → R Unit) : D → S → R Unit
  | .tup ds, s => if ds.length = n then t ds s else .st
  | _, _ => .st
theorem pg_imp {t t' : TG} (h : PG X tg t) (k : ∀ v σ H Q, t' v σ H Q → t v σ H Q) : PG X tg t' := ⟨fun pins s σ H v u Q I r q => h.run pins s σ H v u Q I r (k v σ H Q q)⟩
theorem Rl.setD {s : S} {Lv : Nat → List Addr} {σ : L2.St} {H : Hp} {i : Nat} {d : D} {v : V} (R0 : Rl Z Γ s Lv σ H) (hi : i < s.length) (hb : Γ.bor i = none) (r : Rep Z (Γ.X Lv) H d v) :
    Rl Z Γ (s.set i (.fz d)) (setL Lv i []) (σ.set i (some v)) H ∧ Fw Z (Γ.X Lv) H (Γ.X (setL Lv i [])) H := by
  have F : Fw Z (Γ.X Lv) H (Γ.X (setL Lv i [])) H := Fw.refl.less fun a h => by
    rcases h with h | ⟨j, h⟩
    · exact .inl h
    · by_cases hj : j = i
      · rw [hj, setL_same] at h; cases h
      · rw [setL_ne hj] at h; exact .inr ⟨j, h⟩
  refine R0.put0 hi (by simp) (fun j hj => by rw [List.getElem?_set_ne (Ne.symm hj)]) (fun j u hu => ?_) List.nodup_nil (fun a h => by cases h) ⟨rfl, v, ?_, r.mono F⟩
  · have hj : i ≠ j := fun z => by rw [← z, hb] at hu; cases hu
    rw [List.getElem?_set_ne hj]; exact R0.bor j u hu
  · rw [List.getElem?_set_self (by rw [← R0.len]; exact hi)]
theorem dg_n {i : Nat} {x : Str} (hN : X.N.Nodup) (hi : X.N[i]? = some x := by rfl) (hx : Loc X.env.scope x := by first | exact Or.inl rfl | exact Or.inr rfl) (hb : Γ.bor i = none := by rfl)
    (hf : X.fn x = true ∨ X.env.scope.names.lookup x = some .local := by first | exact .inl rfl | exact .inr rfl | assumption) : PG X (.Name x pos) (tG Z Γ [i] (gN i)) := by
  refine pg_imp (pg_name hN hi hx hf) fun v σ H Q h => ?_
  obtain ⟨s, Lv, d, R0, r, po⟩ := h
  unfold gN at po
  by_cases hi : i < s.length
  · rw [if_pos hi] at po
    obtain ⟨R1, F1⟩ := R0.setD hi hb r
    exact po _ _ _ R1 F1 ⟨by simp, fun j hj => by rw [List.getElem?_set_ne (fun z => hj (by rw [z]; simp))]⟩
  · rw [if_neg hi] at po; exact po.elim
end
end PD

set_option linter.all false
set_option maxRecDepth 100000
namespace PD
open PySem PySem.Spec PyProof.Rows L2

inductive SR where
  | nx (s : S) | rt (r : Rv) (s : S) | bk (s : S) | ct (s : S) | er (c : Str) (ns : List Str) (ds : List D) (s : S) | st
def Ps (Z : Zt) (Γ : Gm) (r : SR) (Lv : Nat → List Addr) (H : Hp) (Dn : Ends) : Prop := match r with
  | .nx s' => ∀ σ' H' Lv', Rl Z Γ s' Lv' σ' H' → Fw Z (Γ.X Lv) H (Γ.X Lv') H' → Dn.nx σ' H'
  | .bk s' => ∀ σ' H' Lv', Rl Z Γ s' Lv' σ' H' → Fw Z (Γ.X Lv) H (Γ.X Lv') H' → Dn.bk σ' H'
  | .ct s' => ∀ σ' H' Lv', Rl Z Γ s' Lv' σ' H' → Fw Z (Γ.X Lv) H (Γ.X Lv') H' → Dn.ct σ' H'
  | .rt r s' => ∀ v σ' H' Lv' L, Rl Z (Γ.plus L) s' Lv' σ' H' → Fw Z (Γ.X Lv) H ((Γ.plus L).X Lv') H' → L.Nodup → (∀ b ∈ L, ¬ Γ.X Lv' b ∧ Γ.H0 b = none) → RvRep Z ((Γ.plus L).X Lv') H' r v L → Dn.rt v H'
  | .er c ns ds s' => ∀ cls d σ' H' Lv', Rl Z Γ s' Lv' σ' H' → Fw Z (Γ.X Lv) H (Γ.X Lv') H' → ExR Z (Γ.X Lv') H' c ns ds cls d → Γ.E cls d σ' H'
  | .st => False
def tS (Z : Zt) (Γ : Gm) (f : S → SR) : TS := fun Dn σ H => ∃ s Lv, Rl Z Γ s Lv σ H ∧ Ps Z Γ (f s) Lv H Dn
def sBind {α : Type} (x : R α) (g : α → S → SR) : SR := match x with
  | .ok a s => g a s
  | .er c ns ds s => .er c ns ds s
  | .st => .st
@[simp] theorem sBind_ok {α : Type} (a : α) (s : S) (g : α → S → SR) : sBind (.ok a s) g = g a s := rfl
@[simp] theorem sBind_er {α : Type} (c : Str) (ns : List Str) (ds : List D) (s : S) (g : α → S → SR) : sBind (.er c ns ds s) g = .er c ns ds s := rfl
@[simp] theorem sBind_st {α : Type} (g : α → S → SR) : sBind .st g = .st := rfl

section
variable {Z : Zt} {Γ : Gm} {Lv Lv1 : Nat → List Addr} {σ : L2.St} {H H1 : Hp} {Dn : Ends} {α β : Type}
theorem Ps.fw {r : SR} (h : Ps Z Γ r Lv H Dn) (F : Fw Z (Γ.X Lv) H (Γ.X Lv1) H1) : Ps Z Γ r Lv1 H1 Dn := by
  cases r with
  | nx s => exact fun σ' H' Lv' R' F' => h σ' H' Lv' R' (F.trans F')
  | bk s => exact fun σ' H' Lv' R' F' => h σ' H' Lv' R' (F.trans F')
  | ct s => exact fun σ' H' Lv' R' F' => h σ' H' Lv' R' (F.trans F')
  | rt r s => exact fun v σ' H' Lv' L R' F' => h v σ' H' Lv' L R' (F.trans F')
  | er c ns ds s => exact fun cls d σ' H' Lv' R' F' => h cls d σ' H' Lv' R' (F.trans F')
  | st => exact h
theorem Ps.bind {ra : (Addr → Prop) → L2.St → Hp → α → β → Prop} {x : R α} {g : α → S → SR} (h : Ps Z Γ (sBind x g) Lv H Dn) :
    Po Z Γ ra x Lv σ H fun v H1 => ∃ a s1 Lv1, x = .ok a s1 ∧ Rl Z Γ s1 Lv1 σ H1 ∧ Fw Z (Γ.X Lv) H (Γ.X Lv1) H1 ∧ ra (Γ.X Lv1) σ H1 a v ∧ Ps Z Γ (g a s1) Lv1 H1 Dn := by
  cases x with
  | ok a s1 => exact fun v H1 Lv1 R1 F1 r => ⟨a, s1, Lv1, rfl, R1, F1, r, h.fw F1⟩
  | er c ns ds s1 => exact fun cls d H' Lv' R' F' x => h cls d σ H' Lv' R' F' x
  | st => exact h
theorem Ps.nx {s : S} {σ' : L2.St} {H' : Hp} {Lv' : Nat → List Addr} (h : Ps Z Γ (.nx s) Lv H Dn) (R' : Rl Z Γ s Lv' σ' H') (F : Fw Z (Γ.X Lv) H (Γ.X Lv') H') : Dn.nx σ' H' := h σ' H' Lv' R' F
end

def tgo (x : R Unit) (g : S → SR) : SR := match x with
  | .ok _ s => g s
  | _ => .st
@[simp] theorem tgo_ok (a : Unit) (s : S) (g : S → SR) : tgo (.ok a s) g = g s := rfl
def sNil : S → SR := fun s => .nx s
def sSeq (f g : S → SR) : S → SR := fun s => match f s with
  | .nx s1 => g s1
  | r => r
def sAsg (t : D → S → R Unit) (f : S → R W) : S → SR := fun s => sBind (f s) fun w s1 => match fzW w with
  | some d => tgo (t d s1) fun s2 => .nx s2
  | none => .st
def sDrop (f : S → R W) : S → SR := fun s => sBind (f s) fun _ s1 => .nx s1
def sRet (f : S → R W) : S → SR := fun s => sBind (f s) fun w s1 => match fzW w with
  | some d => .rt (.d d) s1
  | none => .st
def sRetN : S → SR := fun s => .rt (.d .non) s
def sIf (c : S → R Bool) (f g : S → SR) : S → SR := fun s => sBind (c s) fun b s1 => if b = true then f s1 else g s1
def forD (t : D → S → R Unit) (body : S → SR) : List D → S → SR
  | [], s => .nx s
  | d :: ds, s => tgo (t d s) fun s1 => match body s1 with
    | .nx s2 => forD t body ds s2
    | .ct s2 => forD t body ds s2
    | .bk s2 => .nx s2
    | r => r
def sFor (t : D → S → R Unit) (fi : S → R (List D)) (body : S → SR) : S → SR := fun s => sBind (fi s) fun ds s1 => forD t body ds s1
section
variable {X : Cx} {Z : Zt} {Γ : Gm} {tg e : Expr} {st : Stmt} {rest body : List Stmt} {fa : S → R W} {ga : S → R Bool} {f g : S → SR} {t : D → S → R Unit} {ks : List Nat} {fi : S → R (List D)} {pos : Pos}
theorem dss_nil : PSs X [] (tS Z Γ sNil) := by
  refine pss_imp pss_nil fun Dn σ H h => ?_
  obtain ⟨s, Lv, R0, po⟩ := h
  exact po.nx R0 Fw.refl
theorem seq_D {Dn : Ends} {σ : L2.St} {H : Hp} (h : tS Z Γ (sSeq f g) Dn σ H) : tSeq (tS Z Γ f) (tS Z Γ g) Dn σ H := by
  obtain ⟨s, Lv, R0, po⟩ := h
  refine ⟨s, Lv, R0, ?_⟩
  unfold sSeq at po
  cases e : f s with
  | nx s1 =>
    rw [e] at po
    exact fun σ' H' Lv' R' F' => ⟨s1, Lv', R', po.fw F'⟩
  | bk s1 => rw [e] at po; exact po
  | ct s1 => rw [e] at po; exact po
  | rt r s1 => rw [e] at po; exact po
  | er c ns ds s1 => rw [e] at po; exact po
  | st => rw [e] at po; exact po
theorem dss_cons (h1 : PS X st (tS Z Γ f)) (h2 : PSs X rest (tS Z Γ g)) : PSs X (st :: rest) (tS Z Γ (sSeq f g)) := pss_imp (pss_cons h1 h2) fun _ _ _ h => seq_D h
theorem dss_one (h1 : PS X st (tS Z Γ f)) : PSs X [st] (tS Z Γ f) := pss_one h1
theorem asg_D {Dn : Ends} {σ : L2.St} {H : Hp} (h : tS Z Γ (sAsg t fa) Dn σ H) : tAsg (tE Z Γ fa) (tG Z Γ ks t) Dn σ H := by
  obtain ⟨s, Lv, R0, po⟩ := h
  refine ⟨s, Lv, R0, po.bind.mono fun v H1 ⟨w, s1, Lv1, _, R1, F1, r1, po1⟩ => ?_⟩
  cases e1 : fzW w with
  | none => rw [e1] at po1; exact po1.elim
  | some d =>
    rw [e1] at po1
    simp only at po1
    refine ⟨s1, Lv1, d, R1, fz_ok r1 e1, ?_⟩
    cases e2 : t d s1 with
    | st => rw [e2] at po1; exact po1.elim
    | er c ns ds s2 =>
      rw [e2] at po1
      exact po1.elim
    | ok u s2 =>
      rw [e2] at po1
      exact fun σ' H' Lv' R' F' _ => po1.nx R' F'
theorem ds_asg (he : PE X e (tE Z Γ fa)) (hg : PG X tg (tG Z Γ ks t)) (hs : swapsWithSole [tg] e pos.line X.env = pure false := by rfl) (hw : swappedStores [tg] e X.env = pure none := by rfl)
    (h1 : (assignEach [tg] X.env).map (·.2) = [assign tg X.env] := by rfl) : PS X (.Assign [tg] e pos) (tS Z Γ (sAsg t fa)) := ps_imp (ps_asg he hg hs hw h1) fun _ _ _ h => asg_D h
theorem ds_ret (he : PE X e (tE Z Γ fa)) : PS X (.Return (some e) pos) (tS Z Γ (sRet fa)) := by
  refine ps_imp (ps_ret he) fun Dn σ H h => ?_
  obtain ⟨s, Lv, R0, po⟩ := h
  refine ⟨s, Lv, R0, po.bind.mono fun v H1 ⟨w, s1, Lv1, _, R1, F1, r1, po1⟩ => ?_⟩
  cases e1 : fzW w with
  | none => rw [e1] at po1; exact po1.elim
  | some d =>
    rw [e1] at po1
    have hX : Γ.plus [] = Γ := by unfold Gm.plus; simp
    exact po1 v σ H1 Lv1 [] (by rw [hX]; exact R1) (by rw [hX]; exact Fw.refl) List.nodup_nil (fun b hb => by cases hb) ⟨rfl, by rw [hX]; exact fz_ok r1 e1⟩
theorem ds_if {c : Expr} {a b : List Stmt} (hc : PT X c (tT Z Γ ga)) (ha : PSs X a (tS Z Γ f)) (hb : PSs X b (tS Z Γ g)) : PS X (.If c a b pos) (tS Z Γ (sIf ga f g)) := by
  refine ps_imp (ps_if hc ha hb) fun Dn σ H h => ?_
  obtain ⟨s, Lv, R0, po⟩ := h
  refine ⟨s, Lv, R0, po.bind.mono fun v H1 ⟨w, s1, Lv1, _, R1, F1, r1, po1⟩ => ?_⟩
  subst r1
  cases w with
  | true => rw [if_pos rfl] at po1 ⊢; exact ⟨s1, Lv1, R1, po1⟩
  | false => rw [if_neg Bool.false_ne_true] at po1 ⊢; exact ⟨s1, Lv1, R1, po1⟩
end
end PD

set_option linter.all false
set_option maxRecDepth 100000
namespace PD
open PySem PySem.Spec PyProof.Rows L2

section
variable {Z : Zt} {Γ : Gm} {s : S} {Lv : Nat → List Addr} {σ : L2.St} {H : Hp} {i : Nat} {a : Addr}
theorem fw_own {o o' : HO} (hL : a ∈ Lv i) (ho : H a = some o) (ht : ∀ ps, o ≠ .tbl ps) (hc : ∀ c q, o ≠ LamX.CodeO c q) : Fw Z (Γ.X Lv) H (Γ.X Lv) (upd H a o') := by
  refine ⟨fun b u h n _ => ?_, fun b ps h => ?_, fun b h => .inl h, fun h q hq => tabs_upd ho ht hc (h q hq)⟩
  · rw [upd_ne fun z => n (by rw [z]; exact .inr ⟨i, hL⟩)]; exact h
  · rw [upd_ne fun z => by rw [z, ho] at h; exact ht ps (Option.some.inj h)]
    exact ⟨ps, h⟩
theorem Rl.ownPut (R0 : Rl Z Γ s Lv σ H) {x : O} {o o' : HO} (hi : i < s.length) (hL : a ∈ Lv i) (ho : H a = some o) (ht : ∀ ps, o ≠ .tbl ps) (hc : ∀ c q, o ≠ LamX.CodeO c q)
    (r : Fw Z (Γ.X Lv) H (Γ.X Lv) (upd H a o') → ∃ v, σ[i]? = some (some v) ∧ OwnRep Z (Γ.X Lv) (upd H a o') x v (Lv i)) : Rl Z Γ (s.set i (.ow x)) Lv σ (upd H a o') ∧ Fw Z (Γ.X Lv) H (Γ.X Lv) (upd H a o') := by
  have F := fw_own (Z := Z) (Γ := Γ) (o' := o') hL ho ht hc
  have q := R0.put (i := i) (x := .ow x) (σ' := σ) (L := Lv i) (H' := upd H a o') hi rfl (fun _ _ => rfl) R0.bor (fun b u h n _ => by rw [upd_ne fun z => n (by rw [z]; exact hL)]; exact h)
    (fun b ps h => F.ktbl b ps h) F.tabs (R0.nd i) (fun b h => .inl h) (fun b h => by
      by_cases z : b = a
      · rw [z, upd_same]; simp
      · rw [upd_ne z]; exact h) (by rw [setL_self]; exact r F)
  rw [setL_self] at q
  exact q
theorem Rl.lstAt (R0 : Rl Z Γ s Lv σ H) {ds : List D} (h : s[i]? = some (.ow (.lst ds))) : ∃ a vs, σ[i]? = some (some (.ref a)) ∧ Lv i = [a] ∧ H a = some (.lst vs) ∧ RepL Z (Γ.X Lv) H ds vs := by
  obtain ⟨v, e, a, vs, rfl, e2, e3, r⟩ := R0.ow h
  exact ⟨a, vs, e, e2, e3, r⟩
theorem Rl.lstPut (R0 : Rl Z Γ s Lv σ H) {ds ds' : List D} {vs vs' : List V} (h : s[i]? = some (.ow (.lst ds))) (e : σ[i]? = some (some (.ref a))) (e2 : Lv i = [a]) (e3 : H a = some (.lst vs)) (r : RepL Z (Γ.X Lv) H ds' vs') :
    Rl Z Γ (s.set i (.ow (.lst ds'))) Lv σ (upd H a (.lst vs')) ∧ Fw Z (Γ.X Lv) H (Γ.X Lv) (upd H a (.lst vs')) :=
  R0.ownPut (List.getElem?_eq_some_iff.mp h).1 (by rw [e2]; simp) e3 (fun ps z => by cases z) lst_ncode fun F => ⟨_, e, a, vs', rfl, e2, upd_same, r.mono F⟩
end
def eMv (i : Nat) : S → R W := fun s => match s[i]? with
  | some (.ow o) => .ok (.d o.toD) (s.set i (.fz o.toD))
  | some (.fz d) => .ok (.d d) s
  | _ => .st
def isOwnL (s : S) (i : Nat) : Bool := match s[i]? with
  | some (.ow (.lst _)) => true
  | _ => false
def sApp (i : Nat) (f : S → R W) : S → SR := fun s => if isOwnL s i then sBind (f s) fun w s1 => match fzW w, s1[i]? with
  | some d, some (.ow (.lst ds)) => if ds.length < lim then .nx (s1.set i (.ow (.lst (ds ++ [d])))) else .st
  | _, _ => .st else .st
def sExt (i : Nat) (f : S → R W) : S → SR := fun s => if isOwnL s i then sBind (f s) fun w s1 => match fzW w, s1[i]? with
  | some (.lst es), some (.ow (.lst ds)) => if ds.length + es.length ≤ lim then .nx (s1.set i (.ow (.lst (ds ++ es)))) else .st
  | _, _ => .st else .st
def Rv.sl : Rv → Sl
  | .d x => .fz x
  | .o x => .ow x
def sOwn (i : Nat) (f : S → R Rv) : S → SR := fun s => sBind (f s) fun r s1 => if i < s1.length then .nx (s1.set i r.sl) else .st
def Rv.toD : Rv → D
  | .d x => x
  | .o x => x.toD
def eFz (f : S → R Rv) : S → R W := fun s => (f s).bind fun r s1 => .ok (.d r.toD) s1
def rLst (f : S → R (List W)) : S → R Rv := fun s => (f s).bind fun ws s1 => ofO s1 ((fzL ws).bind fun ds => if ds.length ≤ 1000000 then some (Rv.o (.lst ds)) else none)
section
variable {X : Cx} {Z : Zt} {Γ : Gm} {e o : Expr} {es : List Expr} {fa fb : S → R W} {fr : S → R Rv} {fs : S → R (List W)} {pos pos' ap : Pos} {x : Str}
theorem lim_lt {n : Nat} (h : n < lim) : n < sizeLine := Nat.lt_of_lt_of_le h (lim_line (Nat.le_refl _))
theorem de_fz (h : PE X e (tR Z Γ fr)) : PE X e (tE Z Γ (eFz fr)) := by
  refine pe_imp h fun σ H Q h => ?_
  obtain ⟨s, Lv, R0, po⟩ := h
  refine ⟨s, Lv, R0, ?_⟩
  unfold eFz at po
  cases e1 : fr s with
  | st => rw [e1] at po; exact po.elim
  | er c ns ds s1 => rw [e1] at po; exact po
  | ok r s1 =>
    rw [e1] at po
    intro v H' Lv' L R1 F1 nd nw rr
    have F2 : Fw Z ((Γ.plus L).X Lv') H' (Γ.X Lv') H' := Fw.refl.less fun a h => by
      rcases h with h | h
      · exact .inl (.inl h)
      · exact .inr h
    refine po v H' Lv' (R1.less R0.bx R0.pinx) (F1.trans F2) ?_
    cases r with
    | d x => obtain ⟨_, rr⟩ := rr; exact rr.mono F2
    | o x => exact OwnRep.toD F2 (fun a ha q => (nw a ha).1 q) rr
theorem new_own {s : S} {Lv : Nat → List Addr} {σ : L2.St} {H : Hp} {p : Addr} {o : HO} (R0 : Rl Z Γ s Lv σ H) (np : H p = none) :
    Rl Z (Γ.plus [p]) s Lv σ (upd H p o) ∧ Fw Z (Γ.X Lv) H ((Γ.plus [p]).X Lv) (upd H p o) ∧ ([p] : List Addr).Nodup ∧ ∀ b ∈ [p], ¬ Γ.X Lv b ∧ Γ.H0 b = none := by
  refine ⟨R0.kp (E := Γ.E) (L := [p]) (.same (same_new np)) (fun b hb => by rw [List.mem_singleton.mp hb, upd_same]; exact ⟨np, by simp⟩), ⟨fun a o h _ _ => same_new np a o h, fun a ps h => ⟨ps, same_new np a _ h⟩, fun a h => ?_, fun h => h.ext (same_new np)⟩, by simp, fun b hb => ?_⟩
  · rcases h with (h | h) | h
    · exact .inl (.inl h)
    · rw [List.mem_singleton.mp h]; exact .inr np
    · exact .inl (.inr h)
  · rw [List.mem_singleton.mp hb]
    refine ⟨fun q => R0.xs q np, ?_⟩
    cases q : Γ.H0 p with
    | none => rfl
    | some o => exact absurd np (R0.st0 p (by rw [q]; simp))
theorem dr_lst (h : PA X es (tA Z Γ fs)) : PE X (.List es pos) (tR Z Γ (rLst fs)) := by
  refine pe_imp (pe_lst h) fun σ H Q h => ?_
  obtain ⟨s, Lv, R0, po⟩ := h
  refine ⟨s, Lv, R0, ?_⟩
  unfold rLst at po
  cases e1 : fs s with
  | st => rw [e1] at po; exact po.elim
  | er c ns ds s1 => rw [e1] at po; exact po
  | ok ws s1 =>
    rw [e1] at po
    simp only [PD.R.bind_ok] at po
    intro vs H1 Lv1 R1 F1 r1
    cases e2 : fzL ws with
    | none => rw [e2] at po; exact po.elim
    | some ds =>
      rw [e2] at po
      simp only [Option.bind_some] at po
      by_cases hl : ds.length ≤ 1000000
      · rw [if_pos hl] at po
        have r := fzL_ok r1 e2
        refine ⟨by rw [← r.length]; exact lim_line hl, fun p np => ?_⟩
        obtain ⟨R2, F2, nd, nw⟩ := new_own (o := .lst vs) R1 np
        exact po (.ref p) _ Lv1 [p] R2 (F1.trans F2) nd nw ⟨p, vs, rfl, rfl, upd_same, r.mono F2⟩
      · rw [if_neg hl] at po; exact po.elim
theorem Rl.setR {s : S} {Lv : Nat → List Addr} {σ : L2.St} {H : Hp} {i : Nat} {r : Rv} {v : V} {L : List Addr} (R0 : Rl Z (Γ.plus L) s Lv σ H) (hB : ∀ a ∈ Γ.B, Γ.X0 a) (hP : ∀ a o, Γ.pin a o → Γ.X0 a ∨ Ext o) (hi : i < s.length) (hb : Γ.bor i = none) (nd : L.Nodup)
    (nw : ∀ b ∈ L, ¬ Γ.X Lv b ∧ Γ.H0 b = none) (rr : RvRep Z ((Γ.plus L).X Lv) H r v L) :
    Rl Z Γ (s.set i r.sl) (setL Lv i L) (σ.set i (some v)) H ∧ Fw Z ((Γ.plus L).X Lv) H (Γ.X (setL Lv i L)) H := by
  have F : Fw Z ((Γ.plus L).X Lv) H (Γ.X (setL Lv i L)) H := Fw.refl.less fun a h => by
    rcases h with h | ⟨j, h⟩
    · exact .inl (.inl h)
    · by_cases hj : j = i
      · rw [hj, setL_same] at h; exact .inl (.inr h)
      · rw [setL_ne hj] at h; exact .inr ⟨j, h⟩
  have hσ : (σ.set i (some v))[i]? = some (some v) := List.getElem?_set_self (by rw [← R0.len]; exact hi)
  have hs : SloR Z (Γ.X (setL Lv i L)) H r.sl (σ.set i (some v))[i]? L := by
    cases r with
    | d x => obtain ⟨e, rr⟩ := rr; exact ⟨e, v, hσ, rr.mono F⟩
    | o x => exact ⟨v, hσ, OwnRep.mono F (fun _ _ => rfl) rr⟩
  refine ⟨⟨by simpa using R0.len, fun j y hy => ?_, fun j hj => ?_, fun j => ?_, fun j k a hj hk => ?_, fun j a hj => ?_, R0.keep, R0.ktbl, R0.st0, fun a h => R0.x0 a (.inl h), hB, R0.tb, fun j u hu => ?_, fun a o h => let ⟨_, p2, p3, p4⟩ := R0.pn a o h; ⟨hP a o h, p2, p3, p4⟩⟩, F⟩
  · by_cases hj : j = i
    · subst hj
      rw [List.getElem?_set_self hi] at hy
      cases hy
      rw [setL_same]
      exact hs
    · rw [List.getElem?_set_ne (Ne.symm hj)] at hy
      rw [setL_ne hj, List.getElem?_set_ne (Ne.symm hj)]
      exact (R0.sl j y hy).mono F fun _ _ => rfl
  · rw [List.length_set] at hj
    rw [setL_ne (by omega)]
    exact R0.out j hj
  · by_cases hj : j = i
    · subst hj; rw [setL_same]; exact nd
    · rw [setL_ne hj]; exact R0.nd j
  · by_cases hj1 : j = i
    · by_cases hk1 : k = i
      · rw [hj1, hk1]
      · rw [setL_ne hk1] at hk
        rw [hj1, setL_same] at hj
        exact absurd (.inr ⟨k, hk⟩) (nw a hj).1
    · rw [setL_ne hj1] at hj
      by_cases hk1 : k = i
      · rw [hk1, setL_same] at hk
        exact absurd (.inr ⟨j, hj⟩) (nw a hk).1
      · rw [setL_ne hk1] at hk
        exact R0.dj j k a hj hk
  · by_cases hj1 : j = i
    · rw [hj1, setL_same] at hj
      exact .inr ⟨(nw a hj).2, fun q => (nw a hj).1 (.inl q)⟩
    · rw [setL_ne hj1] at hj
      rcases R0.lvb j a hj with z | z
      · exact .inl z
      · exact .inr ⟨z.1, fun q => z.2 (.inl q)⟩
  · have hj : i ≠ j := fun z => by rw [← z, hb] at hu; cases hu
    rw [List.getElem?_set_ne hj]; exact R0.bor j u hu
theorem ds_own (i : Nat) {p1 : Pos} (he : PE X e (tR Z Γ fr)) (hN : X.N.Nodup) (hi : X.N[i]? = some x := by rfl) (hx : Loc X.env.scope x := by first | exact Or.inl rfl | exact Or.inr rfl) (hb : Γ.bor i = none := by rfl)
    (hs : swapsWith e (some (.Name x p1)) pos.line X.env = pure false := by rfl) (hf : X.fn x = true ∨ X.env.scope.names.lookup x = some .local := by first | exact .inl rfl | exact .inr rfl | assumption) : PS X (.Assign [.Name x p1] e pos) (tS Z Γ (sOwn i fr)) := by
  refine ps_imp (ps_set hN hi hx he hs hf) fun Dn σ H h => ?_
  obtain ⟨s, Lv, R0, po⟩ := h
  refine ⟨s, Lv, R0, ?_⟩
  unfold sOwn at po
  cases e1 : fr s with
  | st => rw [e1] at po; exact po.elim
  | er c ns ds s1 => rw [e1] at po; exact fun cls d H' Lv' R' F' x => po cls d _ H' Lv' R' F' x
  | ok r s1 =>
    rw [e1] at po
    simp only [sBind_ok] at po
    intro v H' Lv' L R1 F1 nd nw rr
    by_cases hi : i < s1.length
    · rw [if_pos hi] at po
      obtain ⟨R2, F2⟩ := R1.setR R0.bx R0.pinx hi hb nd nw rr
      exact po.nx R2 (F1.trans F2)
    · rw [if_neg hi] at po; exact po.elim
end
end PD

set_option linter.all false
set_option maxRecDepth 100000
namespace PD
open PySem PySem.Spec PyProof.Rows L2

inductive FR where
  | ok (r : Rv) | er (c : Str) (ns : List Str) (ds : List D) | st
def spP (Z : Zt) (n : Nat) (g : List D → FR) : Sp := fun vs H Q E => vs.length = n ∧ ∃ (Y : Addr → Prop) (ds : List D), (∀ a, Y a → H a ≠ none) ∧ LamX.Tabs Z.T H ∧ RepL Z Y H ds vs ∧ match g ds with
  | .ok r => ∀ v H' L, Kp Z H H' → L.Nodup → (∀ b ∈ L, H b = none ∧ H' b ≠ none) → RvRep Z (fun a => Y a ∨ a ∈ L) H' r v L → Q v H'
  | .er c ns ds => ∀ cls d H', Kp Z H H' → ExR Z Y H' c ns ds cls d → E cls d H'
  | .st => False
def Gp (Y : Addr → Prop) (H : Hp) (E : XK) : Gm := ⟨Y, H, [], fun _ => none, fun cls d _ H' => E cls d H', fun _ _ => False⟩
def runP (n : Nat) (body : S → SR) (ds : List D) : FR := match body (ds.map Sl.fz ++ List.replicate (n - ds.length) Sl.no) with
  | .nx _ => .ok (.d .non)
  | .rt r _ => .ok r
  | .er c ns ds _ => .er c ns ds
  | _ => .st

theorem RvRep.mono {Z : Zt} {X X' : Addr → Prop} {H H' : Hp} (f : Fw Z X H X' H') {r : Rv} {v : V} {L : List Addr} (k : ∀ a ∈ L, H' a = H a) (h : RvRep Z X H r v L) : RvRep Z X' H' r v L := by
  cases r with
  | d x => exact ⟨h.1, h.2.mono f⟩
  | o x => exact OwnRep.mono f k h

section
variable {P : Program} {w : World} {Z : Zt} {base : Heap}
theorem rl_start {Y : Addr → Prop} {H : Hp} {E : XK} {N : List Str} {ds : List D} {vs : List V} (hY : ∀ a, Y a → H a ≠ none) (tb : LamX.Tabs Z.T H) (r : RepL Z Y H ds vs) :
    Rl Z (Gp Y H E) (ds.map Sl.fz ++ List.replicate (N.length - ds.length) Sl.no) (fun _ => []) (L2.start N vs) H := by
  have hl := r.length
  have F : Fw Z Y H ((Gp Y H E).X fun _ => []) H := Fw.refl.less fun a h => by
    rcases h with h | ⟨i, h⟩
    · exact h
    · cases h
  refine { len := ?_, sl := fun i x hx => ?_, out := fun _ _ => rfl, nd := fun _ => List.nodup_nil, dj := fun i j a h _ => (nomatch h), lvb := fun i a h => (nomatch h), keep := fun a o h _ _ => h, ktbl := fun a ps h => ⟨ps, h⟩, st0 := fun a h => h, x0 := hY, bx := fun a h => (nomatch h), tb := tb, bor := fun i v h => (nomatch h), pn := fun a o h => h.elim }
  · unfold L2.start; simp [hl]
  by_cases hi : i < ds.length
  · rw [List.getElem?_append_left (by simpa using hi), List.getElem?_map, List.getElem?_eq_getElem hi] at hx
    cases hx
    obtain ⟨v, e, rv⟩ := r.get (List.getElem?_eq_getElem hi)
    refine ⟨rfl, v, ?_, rv.mono F⟩
    unfold L2.start
    rw [List.getElem?_append_left (by simp; omega), List.getElem?_map, e]
    rfl
  · rw [List.getElem?_append_right (by simp; omega), List.getElem?_replicate] at hx
    split at hx
    · cases hx; rfl
    · cases hx
end

def EConst (Γ : Gm) : Prop := ∀ cls d σ σ' H, Γ.E cls d σ H → Γ.E cls d σ' H
def PX (X : Cx) (Γ : Gm) : Prop := Passes (L2.CX X.prog X.w) X fun cls d H => ∀ σ, Γ.E cls d σ H
theorem px_of {X : Cx} {Γ : Gm} (tk : Takes X Γ.E) : PX X Γ := passes_call tk fun _ _ σ _ h => h σ
theorem px_never {X : Cx} {Γ : Gm} (h : ∀ cls d σ H, ¬ Γ.E cls d σ H) : PX X Γ := fun pins σ H s e s' I c => by
  obtain ⟨_, _, _, _, _, _, _, _, _, _, _, _, z⟩ := c
  exact (h _ _ [] _ (z [])).elim
def rCall (n : Nat) (g : List D → FR) (f : S → R (List W)) : S → R Rv := fun s => (f s).bind fun ws s1 => match fzL ws with
  | some ds => if ds.length = n then (match g ds with
    | .ok r => .ok r s1
    | .er c ns es => .er c ns es s1
    | .st => .st) else .st
  | none => .st
section
variable {X : Cx} {Z : Zt} {Γ : Gm} {e : Expr} {es : List Expr} {fs : S → R (List W)} {pos p : Pos} {x : Str} {k n : Nat} {f : Addr} {fd : FuncData} {ps : List Str} {g : List D → FR}
def goP (Z : Zt) (Y : Addr → Prop) (H : Hp) (Q : VK) (E : XK) : FR → Prop
  | .ok r => ∀ v H' L, Kp Z H H' → L.Nodup → (∀ b ∈ L, H b = none ∧ H' b ≠ none) → RvRep Z (fun a => Y a ∨ a ∈ L) H' r v L → Q v H'
  | .er c ns ds => ∀ cls d H', Kp Z H H' → ExR Z Y H' c ns ds cls d → E cls d H'
  | .st => False
def PoR (Z : Zt) (Γ : Gm) (r : R Rv) (Lv : Nat → List Addr) (σ : L2.St) (H : Hp) (Q : VK) : Prop := match r with
  | .ok a s' => ∀ v H' Lv' L, Rl Z (Γ.plus L) s' Lv' σ H' → Fw Z (Γ.X Lv) H ((Γ.plus L).X Lv') H' → L.Nodup → (∀ b ∈ L, ¬ Γ.X Lv' b ∧ Γ.H0 b = none) → RvRep Z ((Γ.plus L).X Lv') H' a v L → Q v H'
  | .er c ns ds s' => ∀ cls d H' Lv', Rl Z Γ s' Lv' σ H' → Fw Z (Γ.X Lv) H (Γ.X Lv') H' → ExR Z (Γ.X Lv') H' c ns ds cls d → Γ.E cls d σ H'
  | .st => False
theorem call_Po (hE : EConst Γ) {s : S} {Lv : Nat → List Addr} {σ : L2.St} {H : Hp} {Q : VK} (R0 : Rl Z Γ s Lv σ H) (po : PoR Z Γ (rCall n g fs s) Lv σ H Q) :
    Po Z Γ (WRepL Z) (fs s) Lv σ H fun vs H1 => ∃ s1 Lv1 ds, Rl Z Γ s1 Lv1 σ H1 ∧ Fw Z (Γ.X Lv) H (Γ.X Lv1) H1 ∧ RepL Z (Γ.X Lv1) H1 ds vs ∧ ds.length = n ∧ goP Z (Γ.X Lv1) H1 Q (fun cls d H => ∀ σ, Γ.E cls d σ H) (g ds) := by
  unfold PoR at po
  unfold rCall at po
  cases e1 : fs s with
  | st => rw [e1] at po; exact po.elim
  | er c ns ds s1 => rw [e1] at po; exact po
  | ok ws s1 =>
    rw [e1] at po
    simp only [PD.R.bind_ok] at po
    intro vs H1 Lv1 R1 F1 r1
    cases e2 : fzL ws with
    | none => rw [e2] at po; exact po.elim
    | some ds =>
      rw [e2] at po
      simp only at po
      by_cases hl : ds.length = n
      · rw [if_pos hl] at po
        have r := fzL_ok r1 e2
        refine ⟨s1, Lv1, ds, R1, F1, r, hl, ?_⟩
        unfold goP
        cases e3 : g ds with
        | st => rw [e3] at po; exact po.elim
        | er c ns es =>
          rw [e3] at po
          intro cls d H' kp x σ'
          have R2 := R1.kp (E := Γ.E) (L := []) kp (fun b hb => by cases hb)
          have hX : Γ.plus [] = Γ := by unfold Gm.plus; simp
          exact hE _ _ _ _ _ (po cls d H' Lv1 (by rw [← hX]; exact R2) (F1.trans kp.fw) x)
        | ok r' =>
          rw [e3] at po
          intro v H' L kp nd nw rr
          have Fx : Fw Z (Γ.X Lv1) H1 ((Γ.plus L).X Lv1) H' := ⟨fun a o h _ t => kp.keep a o h t, kp.ktbl, fun a h => by
            rcases h with (h | h) | h
            · exact .inl (.inl h)
            · exact .inr (nw a h).1
            · exact .inl (.inr h), kp.tabs⟩
          refine po v H' Lv1 L (R1.kp (E := Γ.E) kp nw) (F1.trans Fx) nd (fun b hb => ⟨fun q => R1.xs q (nw b hb).1, ?_⟩) (rr.mono (Fw.refl.less fun a h => ?_) fun _ _ => rfl)
          · cases q : Γ.H0 b with
            | none => rfl
            | some o => exact absurd (nw b hb).1 (R1.st0 b (by rw [q]; simp))
          · rcases h with (h | h) | h
            · exact .inl (.inl h)
            · exact .inr h
            · exact .inl (.inr h)
      · rw [if_neg hl] at po; exact po.elim
theorem call_D2 (hE : EConst Γ) {σ : L2.St} {H : Hp} {Q : VK} (h : tR Z Γ (rCall n g fs) σ H Q) : tA Z Γ fs σ H fun vs H1 => ∃ s Lv ds, Rl Z Γ s Lv σ H1 ∧ RepL Z (Γ.X Lv) H1 ds vs ∧ ds.length = n ∧ goP Z (Γ.X Lv) H1 Q (fun cls d H => ∀ σ, Γ.E cls d σ H) (g ds) := by
  obtain ⟨s, Lv, R0, po⟩ := h
  exact ⟨s, Lv, R0, (call_Po hE R0 po).mono fun vs H1 ⟨s1, Lv1, ds, R1, _, r, hl, q⟩ => ⟨s1, Lv1, ds, R1, r, hl, q⟩⟩
theorem call_D (hE : EConst Γ) {σ : L2.St} {H : Hp} {Q : VK} (h : tR Z Γ (rCall n g fs) σ H Q) : tCall (spP Z n g) [] (fun cls d H => ∀ σ, Γ.E cls d σ H) (tA Z Γ fs) σ H Q := by
  obtain ⟨s, Lv, R0, po⟩ := call_D2 hE h
  refine ⟨s, Lv, R0, po.mono fun vs H1 ⟨s1, Lv1, ds, R1, r, hl, q⟩ => ?_⟩
  rw [List.append_nil]
  refine ⟨by rw [← r.length]; exact hl, Γ.X Lv1, ds, fun a h => R1.xs h, R1.tb, r, ?_⟩
  unfold goP at q
  cases e : g ds with
  | ok r => rw [e] at q; exact q
  | er c ns ds => rw [e] at q; exact q
  | st => rw [e] at q; exact q
end
theorem econst_p {Y : Addr → Prop} {H : Hp} {E : XK} : EConst (Gp Y H E) := fun _ _ _ _ _ h => h
theorem econst_f {Γ : Gm} (h : ∀ cls d σ H, ¬ Γ.E cls d σ H) : EConst Γ := fun _ _ _ _ _ q => (h _ _ _ _ q).elim

section
variable {X : Cx} {Z : Zt} {Γ : Gm} {Y : Addr → Prop} {H : Hp} {e : Expr} {fa : S → R W} {pos p p2 : Pos}
end
end PD

set_option linter.all false
set_option maxRecDepth 100000
namespace PD
open PySem PySem.Spec PyProof.Rows L2

def clr (vs : List Nat) (s : S) : S := vs.foldl (fun s i => s.set i .no) s
def rst (vs : List Nat) (s0 s : S) : S := vs.foldl (fun s i => s.set i (s0.getD i .no)) s
def noOwn (vs : List Nat) (s : S) : Bool := vs.all fun i => match s[i]? with
  | some (.ow _) => false
  | _ => true
def tYesD : S → R Bool := fun s => .ok true s
def lcD (vs : List Nat) (t : D → S → R Unit) (c : S → R Bool) (f : S → R W) : List D → S → R (List D)
  | [], s => .ok [] s
  | d :: ds, s => match t d s with
    | .ok _ s1 => (c s1).bind fun b s2 => if b = true then (f s2).bind fun w s3 => match fzW w with
        | some x => if noOwn vs s3 = true then (lcD vs t c f ds (clr vs s3)).bind fun xs s4 => .ok (x :: xs) s4 else .st
        | none => .st
      else if noOwn vs s2 = true then lcD vs t c f ds (clr vs s2) else .st
    | _ => .st
def eLc (vs : List Nat) (t : D → S → R Unit) (fi : S → R (List D)) (c : S → R Bool) (f : S → R W) : S → R (List D) := fun s => (fi s).bind fun ds s1 =>
  if noOwn vs s1 = true ∧ ds.length ≤ lim then (match lcD vs t c f ds (clr vs s1) with
    | .ok xs s2 => .ok xs (rst vs s1 s2)
    | _ => .st) else .st
def eLcD (vs : List Nat) (t : D → S → R Unit) (fi : S → R (List D)) (c : S → R Bool) (f : S → R W) : S → R W := fun s => (eLc vs t fi c f s).bind fun xs s1 => .ok (.d (.lst xs)) s1
theorem set_len {α : Type} : ∀ (vs : List Nat) (l : List α) (f : List α → Nat → α), (vs.foldl (fun s i => s.set i (f s i)) l).length = l.length
  | [], l, f => rfl
  | v :: vs, l, f => by rw [List.foldl_cons, set_len vs]; simp
theorem clr_len (vs : List Nat) (s : S) : (clr vs s).length = s.length := set_len vs s fun _ _ => .no
theorem rst_len (vs : List Nat) (s0 s : S) : (rst vs s0 s).length = s.length := set_len vs s fun _ i => s0.getD i .no
theorem clr_get : ∀ (vs : List Nat) (s : S) (i : Nat), (clr vs s)[i]? = if i ∈ vs then s[i]?.map (fun _ => Sl.no) else s[i]?
  | [], s, i => by simp [clr]
  | v :: vs, s, i => by
    show (clr vs (s.set v .no))[i]? = _
    rw [clr_get vs, List.getElem?_set]
    by_cases h2 : v = i
    · subst h2
      rw [if_pos rfl]
      have hm : v ∈ v :: vs := List.mem_cons_self
      rw [if_pos hm]
      by_cases h3 : v < s.length
      · rw [if_pos h3, List.getElem?_eq_getElem h3]; split <;> rfl
      · rw [if_neg h3, List.getElem?_eq_none (by omega)]; split <;> rfl
    · rw [if_neg h2]
      by_cases h1 : i ∈ vs
      · rw [if_pos h1, if_pos (List.mem_cons_of_mem _ h1)]
      · rw [if_neg h1, if_neg (by simp [h1, Ne.symm h2])]
theorem rst_get (s0 : S) : ∀ (vs : List Nat) (s : S) (i : Nat), (rst vs s0 s)[i]? = if i ∈ vs then s[i]?.map (fun _ => s0.getD i .no) else s[i]?
  | [], s, i => by simp [rst]
  | v :: vs, s, i => by
    show (rst vs s0 (s.set v (s0.getD v .no)))[i]? = _
    rw [rst_get s0 vs, List.getElem?_set]
    by_cases h2 : v = i
    · subst h2
      rw [if_pos rfl]
      have hm : v ∈ v :: vs := List.mem_cons_self
      rw [if_pos hm]
      by_cases h3 : v < s.length
      · rw [if_pos h3, List.getElem?_eq_getElem h3]; split <;> rfl
      · rw [if_neg h3, List.getElem?_eq_none (by omega)]; split <;> rfl
    · rw [if_neg h2]
      by_cases h1 : i ∈ vs
      · rw [if_pos h1, if_pos (List.mem_cons_of_mem _ h1)]
      · rw [if_neg h1, if_neg (by simp [h1, Ne.symm h2])]
theorem wipe_get : ∀ (vs : List Nat) (σ : L2.St) (i : Nat), (wipe σ vs)[i]? = if i ∈ vs then σ[i]?.map (fun _ => none) else σ[i]?
  | [], σ, i => by simp [wipe]
  | v :: vs, σ, i => by
    show ((wipe σ vs).set v none)[i]? = _
    rw [List.getElem?_set, wipe_get vs, wipe_length]
    by_cases h2 : v = i
    · subst h2
      rw [if_pos rfl]
      have hm : v ∈ v :: vs := List.mem_cons_self
      rw [if_pos hm]
      by_cases h3 : v < σ.length
      · rw [if_pos h3, List.getElem?_eq_getElem h3]; rfl
      · rw [if_neg h3, List.getElem?_eq_none (by omega)]; rfl
    · rw [if_neg h2]
      by_cases h1 : i ∈ vs
      · rw [if_pos h1, if_pos (List.mem_cons_of_mem _ h1)]
      · rw [if_neg h1, if_neg (by simp [h1, Ne.symm h2])]
theorem wipe_eq {vs : List Nat} {σ σ2 : L2.St} (hl : σ2.length = σ.length) (h : ∀ j : Nat, j ∉ vs → σ2[j]? = σ[j]?) : wipe σ2 vs = wipe σ vs := by
  refine List.ext_getElem? fun i => ?_
  rw [wipe_get, wipe_get]
  by_cases hi : i ∈ vs
  · rw [if_pos hi, if_pos hi]
    by_cases h3 : i < σ.length
    · rw [List.getElem?_eq_getElem h3, List.getElem?_eq_getElem (by omega)]; rfl
    · rw [List.getElem?_eq_none (by omega), List.getElem?_eq_none (by omega)]
  · rw [if_neg hi, if_neg hi, h i hi]

section
variable {Z : Zt} {Γ : Gm} {s : S} {Lv : Nat → List Addr} {σ : L2.St} {H : Hp} {vs : List Nat}
theorem noOwn_ok (h : noOwn vs s = true) {i : Nat} (hi : i ∈ vs) (o : O) : s[i]? ≠ some (.ow o) := fun q => by
  have h := List.all_eq_true.mp h i hi
  rw [q] at h
  cases h
theorem Rl.clr (R0 : Rl Z Γ s Lv σ H) (hn : noOwn vs s = true) (h0 : (vs.all fun i => (Γ.bor i).isNone) = true) : Rl Z Γ (clr vs s) Lv (wipe σ vs) H := by
  refine { len := ?_, sl := fun i x hx => ?_, out := ?_, nd := R0.nd, dj := R0.dj, lvb := R0.lvb, keep := R0.keep, ktbl := R0.ktbl, st0 := R0.st0, x0 := R0.x0, bx := R0.bx, tb := R0.tb, bor := ?_, pn := R0.pn }
  · rw [clr_len, wipe_length]; exact R0.len
  · rw [clr_get] at hx
    by_cases hi : i ∈ vs
    · rw [if_pos hi] at hx
      cases e : s[i]? with
      | none => rw [e] at hx; cases hx
      | some y =>
        rw [e] at hx
        cases hx
        have q := R0.sl i y e
        cases y with
        | no => exact q
        | fz d => exact q.1
        | ow o => exact absurd e (noOwn_ok hn hi o)
    · rw [if_neg hi] at hx
      rw [wipe_get, if_neg hi]
      exact R0.sl i x hx
  · rw [clr_len]; exact R0.out
  · intro i v hv
    have n0 : i ∉ vs := fun hi => by
      have h := List.all_eq_true.mp h0 i hi
      rw [hv] at h; cases h
    rw [wipe_get, if_neg n0]; exact R0.bor i v hv
end
theorem wipe_wipe {vs : List Nat} {σ : L2.St} : wipe (wipe σ vs) vs = wipe σ vs := wipe_eq (wipe_length σ vs) fun j hj => by rw [wipe_get, if_neg hj]
section
variable {Z : Zt} {Γ : Gm} {s s' : S} {Lv Lv' : Nat → List Addr} {σ : L2.St} {H H' : Hp} {vs : List Nat}
theorem Rl.rst {p : Addr} {acc : List V} (R0 : Rl Z Γ s Lv σ H) (R1 : Rl Z (Γ.blk p acc) s' Lv' (wipe σ vs) H') (F : Fw Z (Γ.X Lv) H ((Γ.blk p acc).X Lv') H') (hn : noOwn vs s = true) (hc : ∀ i ∈ vs, ∀ x, s'[i]? = some x → x = .no) (hl : s'.length = s.length) :
    Rl Z Γ (rst vs s s') Lv' σ H' ∧ Fw Z (Γ.X Lv) H (Γ.X Lv') H' := by
  have F2 : Fw Z ((Γ.blk p acc).X Lv') H' (Γ.X Lv') H' := Fw.refl.less fun a h => by
    rcases h with h | h
    · exact .inl (.inl h)
    · exact .inr h
  have F3 := F.trans F2
  refine ⟨{ len := ?_, sl := fun i x hx => ?_, out := ?_, nd := R1.nd, dj := R1.dj, lvb := fun i a h => ?_, keep := R1.keep, ktbl := R1.ktbl, st0 := R1.st0, x0 := fun a h => R1.x0 a (.inl h), bx := R0.bx, tb := R1.tb, bor := R0.bor, pn := fun a o h => ?_ }, F3⟩
  · rw [rst_len, hl]; exact R0.len
  · rw [rst_get] at hx
    by_cases hi : i ∈ vs
    · rw [if_pos hi] at hx
      cases e : s'[i]? with
      | none => rw [e] at hx; cases hx
      | some y =>
        rw [e] at hx
        have ey := hc i hi y e
        subst ey
        have hLi : Lv' i = [] := R1.sl i _ e
        have hx : s.getD i .no = x := by simpa using hx
        have hlt : i < s.length := by
          obtain ⟨h, _⟩ := List.getElem?_eq_some_iff.mp e
          omega
        have e2 : s[i]? = some x := by
          rw [List.getElem?_eq_getElem hlt, ← hx]
          simp [List.getD, List.getElem?_eq_getElem hlt]
        have q := R0.sl i x e2
        rw [hLi]
        cases x with
        | no => rfl
        | fz d => obtain ⟨_, v, e3, r⟩ := q; exact ⟨rfl, v, e3, r.mono F3⟩
        | ow o => exact absurd e2 (noOwn_ok hn hi o)
    · rw [if_neg hi] at hx
      have q := R1.sl i x hx
      rw [wipe_get, if_neg hi] at q
      exact q.mono F2 fun _ _ => rfl
  · intro i hi
    rw [rst_len] at hi
    exact R1.out i hi
  · rcases R1.lvb i a h with z | z
    · exact .inl z
    · exact .inr ⟨z.1, fun q => z.2 (.inl q)⟩
  · obtain ⟨p1, p2, p3, p4⟩ := R1.pn a o (.inl h)
    exact ⟨R0.pinx a o h, p2, p3, p4⟩
end
section
variable {X : Cx} {Z : Zt} {Γ : Gm} {elt tg iter : Expr} {ifs : List Expr} {scope : Scope} {own : List (Str × Nat)} {t : D → S → R Unit} {ks : List Nat} {fi : S → R (List D)} {c : S → R Bool} {f : S → R W} {pos : Pos}
theorem dts_one {e : Expr} (h : PT X e (tT Z Γ c)) : PTs X [e] (tT Z Γ c) := pts_one h
theorem pe_ex {α : Type} {e : Expr} {u : α → TE} (h : ∀ a, PE X e (u a)) : PE X e fun σ H Q => ∃ a, u a σ H Q := ⟨fun pins s σ H Q I ⟨a, q⟩ => (h a).run pins s σ H Q I q⟩
theorem pts_ex {α : Type} {es : List Expr} {u : α → TT} (h : ∀ a, PTs X es (u a)) : PTs X es fun σ H Q => ∃ a, u a σ H Q := ⟨fun pins s σ H Q I ⟨a, q⟩ => (h a).run pins s σ H Q I q⟩
theorem pg_ex {α : Type} {u : α → TG} (h : ∀ a, PG X tg (u a)) : PG X tg fun v σ H Q => ∃ a, u a v σ H Q := ⟨fun pins s σ H v u Q I r ⟨a, q⟩ => (h a).run pins s σ H v u Q I r q⟩
abbrev tEb (Z : Zt) (Γ : Gm) (f : S → R W) : TE := fun σ H Q => ∃ pa : Addr × List V, tE Z (Γ.blk pa.1 pa.2) f σ H Q
abbrev tTb (Z : Zt) (Γ : Gm) (f : S → R Bool) : TT := fun σ H Q => ∃ pa : Addr × List V, tT Z (Γ.blk pa.1 pa.2) f σ H Q
abbrev tGb (Z : Zt) (Γ : Gm) (ks : List Nat) (t : D → S → R Unit) : TG := fun v σ H Q => ∃ pa : Addr × List V, tG Z (Γ.blk pa.1 pa.2) ks t v σ H Q
theorem PoR.bind {α β : Type} {ra : (Addr → Prop) → L2.St → Hp → α → β → Prop} {x : R α} {g : α → S → R Rv} {Lv : Nat → List Addr} {σ : L2.St} {H : Hp} {Q : VK} (h : PoR Z Γ (x.bind g) Lv σ H Q) :
    Po Z Γ ra x Lv σ H fun v H1 => ∃ a s1 Lv1, x = .ok a s1 ∧ Rl Z Γ s1 Lv1 σ H1 ∧ Fw Z (Γ.X Lv) H (Γ.X Lv1) H1 ∧ ra (Γ.X Lv1) σ H1 a v ∧ PoR Z Γ (g a s1) Lv1 σ H1 Q := by
  cases x with
  | ok a s1 =>
    intro v H1 Lv1 R F r
    refine ⟨a, s1, Lv1, rfl, R, F, r, ?_⟩
    have h : PoR Z Γ (g a s1) Lv σ H Q := h
    revert h
    generalize g a s1 = y
    intro h
    cases y with
    | ok c s2 => exact fun u H2 Lv2 L R2 F2 => h u H2 Lv2 L R2 (F.trans F2)
    | er c ns ds s2 => exact fun cls d H2 Lv2 R2 F2 r2 => h cls d H2 Lv2 R2 (F.trans F2) r2
    | st => exact h
  | er c ns ds s1 => exact h
  | st => exact h
def rLcD (vs : List Nat) (t : D → S → R Unit) (fi : S → R (List D)) (c : S → R Bool) (f : S → R W) : S → R Rv := fun s => (eLc vs t fi c f s).bind fun xs s1 => .ok (.o (.lst xs)) s1
theorem Rl.rstP {s s' : S} {Lv Lv' : Nat → List Addr} {σ : L2.St} {H H' : Hp} {vs : List Nat} {p : Addr} {acc : List V} (R0 : Rl Z Γ s Lv σ H) (R1 : Rl Z (Γ.blk p acc) s' Lv' (wipe σ vs) H') (F : Fw Z (Γ.X Lv) H ((Γ.blk p acc).X Lv') H') (hn : noOwn vs s = true) (hc : ∀ i ∈ vs, ∀ x, s'[i]? = some x → x = .no) (hl : s'.length = s.length) :
    Rl Z (Γ.plus [p]) (PD.rst vs s s') Lv' σ H' := by
  refine { len := ?_, sl := fun i x hx => ?_, out := ?_, nd := R1.nd, dj := R1.dj, lvb := R1.lvb, keep := R1.keep, ktbl := R1.ktbl, st0 := R1.st0, x0 := R1.x0, bx := fun a h => .inl (R0.bx a h), tb := R1.tb, bor := R0.bor, pn := fun a o h => ?_ }
  · rw [rst_len, hl]; exact R0.len
  · rw [rst_get] at hx
    by_cases hi : i ∈ vs
    · rw [if_pos hi] at hx
      cases e : s'[i]? with
      | none => rw [e] at hx; cases hx
      | some y =>
        rw [e] at hx
        have ey := hc i hi y e
        subst ey
        have hLi : Lv' i = [] := R1.sl i _ e
        have hx : s.getD i .no = x := by simpa using hx
        have hlt : i < s.length := by
          obtain ⟨h, _⟩ := List.getElem?_eq_some_iff.mp e
          omega
        have e2 : s[i]? = some x := by
          rw [List.getElem?_eq_getElem hlt, ← hx]
          simp [List.getD, List.getElem?_eq_getElem hlt]
        have q := R0.sl i x e2
        rw [hLi]
        cases x with
        | no => rfl
        | fz d => obtain ⟨_, v, e3, r⟩ := q; exact ⟨rfl, v, e3, r.mono F⟩
        | ow o => exact absurd e2 (noOwn_ok hn hi o)
    · rw [if_neg hi] at hx
      have q := R1.sl i x hx
      rw [wipe_get, if_neg hi] at q
      exact q
  · intro i hi
    rw [rst_len] at hi
    exact R1.out i hi
  · obtain ⟨p1, p2, p3, p4⟩ := R1.pn a o (.inl h)
    exact ⟨(R0.pinx a o h).imp .inl id, p2, p3, p4⟩
theorem fz_R {fr : S → R Rv} {σ : L2.St} {H : Hp} {Q : VK} (h : tE Z Γ (eFz fr) σ H Q) : tR Z Γ fr σ H Q := by
  obtain ⟨s, Lv, R0, po⟩ := h
  refine ⟨s, Lv, R0, ?_⟩
  unfold eFz at po
  cases e1 : fr s with
  | st => rw [e1] at po; exact po.elim
  | er c ns ds s1 => rw [e1] at po; exact po
  | ok r s1 =>
    rw [e1] at po
    intro v H' Lv' L R1 F1 nd nw rr
    have F2 : Fw Z ((Γ.plus L).X Lv') H' (Γ.X Lv') H' := Fw.refl.less fun a h => by
      rcases h with h | h
      · exact .inl (.inl h)
      · exact .inr h
    refine po v H' Lv' (R1.less R0.bx R0.pinx) (F1.trans F2) ?_
    cases r with
    | d x => obtain ⟨_, rr⟩ := rr; exact rr.mono F2
    | o x => exact OwnRep.toD F2 (fun a ha q => (nw a ha).1 q) rr
theorem lc_R {vs : List Nat} (hks : ∀ k ∈ ks, k ∈ vs) (h0 : (vs.all fun i => (Γ.bor i).isNone) = true) {σ : L2.St} {H : Hp} {Q : VK} (h : tR Z Γ (rLcD vs t fi c f) σ H Q) : tLc (tI Z Γ fi) (tGb Z Γ ks t) (tTb Z Γ c) (tEb Z Γ f) vs σ H Q := by
  obtain ⟨s, Lv, R0, po⟩ := h
  have po : PoR Z Γ ((fi s).bind fun ds s1 => (if noOwn vs s1 = true ∧ ds.length ≤ lim then (match lcD vs t c f ds (clr vs s1) with
    | .ok xs s2 => .ok xs (rst vs s1 s2)
    | _ => .st) else .st : R (List D)).bind fun xs s1 => .ok (.o (.lst xs)) s1) Lv σ H Q := by
    have e : rLcD vs t fi c f s = ((fi s).bind fun ds s1 => (if noOwn vs s1 = true ∧ ds.length ≤ lim then (match lcD vs t c f ds (clr vs s1) with
      | .ok xs s2 => .ok xs (rst vs s1 s2)
      | _ => .st) else .st : R (List D)).bind fun xs s1 => .ok (.o (.lst xs)) s1) := by
      unfold rLcD eLc
      cases fi s <;> rfl
    rw [← e]
    exact po
  refine ⟨s, Lv, R0, po.bind.mono fun J H1 ⟨ds, s1, Lv1, _, R1, F1, itr, po1⟩ => ?_⟩
  by_cases hc : noOwn vs s1 = true ∧ ds.length ≤ lim
  · rw [if_pos hc] at po1
    obtain ⟨hn, hlim⟩ := hc
    cases hr : lcD vs t c f ds (clr vs s1) with
    | st => rw [hr] at po1; exact po1.elim
    | er a b d e => rw [hr] at po1; exact po1.elim
    | ok xs s2 =>
      rw [hr] at po1
      simp only [PD.R.bind_ok] at po1
      intro p np
      have R2 := R1.toBlk np
      have Rb : Rl Z (Γ.blk p []) (clr vs s1) Lv1 (wipe σ vs) (upd H1 p (.lst [])) := R2.clr hn h0
      have npin : ∀ o, ¬ Γ.pin p o := fun o h => by
        obtain ⟨_, _, _, e⟩ := R1.pn p o h
        rw [np] at e; cases e
      have hX0 : ¬ Γ.X0 p := fun h => R1.x0 p h np
      have hH0 : Γ.H0 p = none := by
        cases q : Γ.H0 p with
        | none => rfl
        | some o => exact absurd np (R1.st0 p (by rw [q]; simp))
      have F12 : Fw Z (Γ.X Lv1) H1 ((Γ.blk p []).X Lv1) (upd H1 p (.lst [])) := by
        refine ⟨fun a o h _ _ => same_new np a o h, fun a ps h => ⟨ps, same_new np a _ h⟩, fun a h => ?_, fun h => h.ext (same_new np)⟩
        rcases h with (h | h) | h
        · exact .inl (.inl h)
        · rw [List.mem_singleton.mp h]; exact .inr np
        · exact .inl (.inr h)
      refine ⟨fun i m H' => m = ds.length - i ∧ i ≤ ds.length ∧ ∃ s' Lv' acc pre xs', Rl Z (Γ.blk p acc) s' Lv' (wipe σ vs) H' ∧ Fw Z (Γ.X Lv1) H1 ((Γ.blk p acc).X Lv') H' ∧ RepL Z ((Γ.blk p acc).X Lv') H' pre acc ∧ acc.length ≤ i ∧
        lcD vs t c f (ds.drop i) s' = .ok xs' s2 ∧ pre ++ xs' = xs ∧ (∀ i ∈ vs, ∀ x, s'[i]? = some x → x = .no) ∧ s'.length = s1.length, ⟨ds.length, by simp, Nat.zero_le _, clr vs s1, Lv1, [], [], xs, Rb, F12, RepL.nil, Nat.zero_le _, hr, rfl, fun i hi x hx => ?_, clr_len _ _⟩, ?_⟩
      · rw [clr_get, if_pos hi] at hx
        cases e : s1[i]? with
        | none => rw [e] at hx; cases hx
        | some y => rw [e] at hx; cases hx; rfl
      rintro i m H' ⟨rfl, hi, s', Lv', acc, pre, xs', R', F', rp, hacc, hlc, hpre, hcl, hlen⟩
      by_cases hlt : i < ds.length
      · have hd : ds[i]? = some ds[i] := List.getElem?_eq_getElem hlt
        rw [List.drop_eq_getElem_cons hlt] at hlc
        simp only [lcD] at hlc
        have F'' : Fw Z (Γ.X Lv1) H1 (Γ.X Lv') H' := F'.trans (Fw.refl.less fun a h => by
          rcases h with h | h
          · exact .inl (.inl h)
          · exact .inr h)
        refine .inr ⟨itr.go _ H' F' (R'.alv (fun _ _ _ h => .inl h) Gm.NT.blk) i hlt, _, fun H2 p' => ⟨ds.length - (i + 1), by omega, p'⟩, fun x H3 y => ?_⟩
        obtain ⟨sm, rx⟩ := itr.yld _ H' F' (R'.alv (fun _ _ _ h => .inl h) Gm.NT.blk) i _ hd x H3 y
        refine ⟨(p, acc), s', Lv', ds[i], R'.same sm, rx, ?_⟩
        cases et : t ds[i] s' with
        | st => rw [et] at hlc; cases hlc
        | er _ _ _ _ => rw [et] at hlc; cases hlc
        | ok u sa =>
          rw [et] at hlc
          simp only at hlc
          intro σ2 H4 Lv4 R4 F4 ⟨hl2, hk2⟩
          have hw : wipe σ2 vs = wipe σ vs := by
            rw [← wipe_wipe (σ := σ)]
            exact wipe_eq hl2 fun j hj => hk2 j fun q => hj (hks j q)
          refine ⟨hw, (p, acc), sa, Lv4, R4, ?_⟩
          cases ec : c sa with
          | st => rw [ec] at hlc; cases hlc
          | er _ _ _ _ => rw [ec] at hlc; cases hlc
          | ok b sb =>
            rw [ec] at hlc
            simp only [PD.R.bind_ok] at hlc
            rintro b' H5 Lv5 R5 F5 rfl
            have F05 : Fw Z ((Γ.blk p acc).X Lv') H' ((Γ.blk p acc).X Lv5) H5 := (Fw.same sm).trans (F4.trans F5)
            cases b with
            | false =>
              rw [if_neg Bool.false_ne_true] at hlc ⊢
              by_cases hno : noOwn vs sb = true
              case neg => rw [if_neg hno] at hlc; cases hlc
              rw [if_pos hno] at hlc
              have R6 : Rl Z (Γ.blk p acc) (clr vs sb) Lv5 (wipe σ vs) H5 := by
                rw [← hw]
                exact R5.clr hno h0
              exact ⟨rfl, hlt, clr vs sb, Lv5, acc, pre, xs', R6, F'.trans F05, rp.mono F05, by omega, hlc, hpre, fun j hj x hx => by
                rw [clr_get, if_pos hj] at hx
                cases e : sb[j]? with
                | none => rw [e] at hx; cases hx
                | some y => rw [e] at hx; cases hx; rfl, by rw [clr_len, R5.len, hl2, wipe_length]; exact R1.len.symm⟩
            | true =>
              rw [if_pos rfl] at hlc ⊢
              refine ⟨(p, acc), sb, Lv5, R5, ?_⟩
              cases ef : f sb with
              | st => rw [ef] at hlc; cases hlc
              | er _ _ _ _ => rw [ef] at hlc; cases hlc
              | ok w sc =>
                rw [ef] at hlc
                simp only [PD.R.bind_ok] at hlc
                intro y H6 Lv6 R6 F6 ry
                have F06 := F05.trans F6
                cases ew : fzW w with
                | none => rw [ew] at hlc; cases hlc
                | some z =>
                  rw [ew] at hlc
                  simp only at hlc
                  by_cases hno : noOwn vs sc = true
                  case neg => rw [if_neg hno] at hlc; cases hlc
                  rw [if_pos hno] at hlc
                  obtain ⟨_, _, _, pD⟩ := R6.pn p _ (.inr ⟨rfl, rfl⟩)
                  refine ⟨acc, pD, lim_lt (by omega), ?_⟩
                  cases er : lcD vs t c f (List.drop (i + 1) ds) (clr vs sc) with
                  | st => rw [er] at hlc; cases hlc
                  | er _ _ _ _ => rw [er] at hlc; cases hlc
                  | ok xs'' s3 =>
                    rw [er] at hlc
                    simp only [PD.R.bind_ok] at hlc
                    cases hlc
                    have tb6 : LamX.Tabs Z.T (upd H6 p (.lst (acc ++ [y]))) := fun q hq => tabs_upd pD (fun ps z => by cases z) lst_ncode (R6.tb q hq)
                    have R7 : Rl Z (Γ.blk p acc) (clr vs sc) Lv6 (wipe σ vs) H6 := by
                      rw [← hw]
                      exact R6.clr hno h0
                    have R8 := R7.grow (acc' := acc ++ [y]) npin hH0 tb6
                    have F78 : Fw Z ((Γ.blk p acc).X Lv6) H6 ((Γ.blk p (acc ++ [y])).X Lv6) (upd H6 p (.lst (acc ++ [y]))) := by
                      refine ⟨fun a o h n _ => by rw [upd_ne fun z => n (by rw [z]; exact .inl (.inr (by simp)))]; exact h, fun a ps h => ⟨ps, by rw [upd_ne fun z => by rw [z, pD] at h; cases h]; exact h⟩, fun a h => .inl h, fun _ => tb6⟩
                    refine ⟨rfl, hlt, clr vs sc, Lv6, acc ++ [y], pre ++ [z], xs'', R8, (F'.trans F06).trans F78, ((rp.mono F06).mono F78).app (RepL.one ((fz_ok ry ew).mono F78)), by simp; omega, er, by rw [List.append_assoc]; exact hpre, fun j hj x hx => by
                      rw [clr_get, if_pos hj] at hx
                      cases e : sc[j]? with
                      | none => rw [e] at hx; cases hx
                      | some y => rw [e] at hx; cases hx; rfl, by rw [clr_len, R6.len, hl2, wipe_length]; exact R1.len.symm⟩
      · have e : i = ds.length := by omega
        subst e
        rw [List.drop_length] at hlc
        simp only [lcD] at hlc
        cases hlc
        rw [List.append_nil] at hpre
        subst hpre
        have R9 := R1.rstP R' F' hn hcl hlen
        refine .inl ⟨itr.stop _ H' F' (R'.alv (fun _ _ _ h => .inl h) Gm.NT.blk), ?_⟩
        obtain ⟨q1, q2, q3, q4⟩ := R'.pn p _ (.inr ⟨rfl, rfl⟩)
        have nx : ¬ Ext (.lst acc) := fun ⟨_, z⟩ => by cases z
        have q1 := q1.resolve_right nx
        have q2 := q2.resolve_right nx
        refine po1 (.ref p) H' Lv' [p] R9 F' (by simp) (fun b hb => ?_) ⟨p, acc, rfl, rfl, q4, rp⟩
        rw [List.mem_singleton.mp hb]
        refine ⟨fun h => ?_, hH0⟩
        rcases h with h | ⟨j, h⟩
        · exact hX0 h
        · rcases R'.lvb j p h with z | z
          · exact q2 z.2
          · exact z.2 q1
  · rw [if_neg hc] at po1; exact po1.elim
theorem lc_D {vs : List Nat} (hks : ∀ k ∈ ks, k ∈ vs) (h0 : (vs.all fun i => (Γ.bor i).isNone) = true) {σ : L2.St} {H : Hp} {Q : VK} (h : tE Z Γ (eLcD vs t fi c f) σ H Q) : tLc (tI Z Γ fi) (tGb Z Γ ks t) (tTb Z Γ c) (tEb Z Γ f) vs σ H Q := by
  refine lc_R hks h0 (fz_R ?_)
  have e : eFz (rLcD vs t fi c f) = eLcD vs t fi c f := by
    funext s
    unfold eFz rLcD eLcD
    cases eLc vs t fi c f s <;> rfl
  rw [e]
  exact h
end
end PD

set_option linter.all false
set_option maxRecDepth 100000
namespace PD
open PySem PySem.Spec PyProof.Rows L2

section
variable {X : Cx} {Z : Zt} {Γ : Gm} {elt tg iter : Expr} {ifs : List Expr} {scope : Scope} {own : List (Str × Nat)} {t : D → S → R Unit} {ks : List Nat} {fi : S → R (List D)} {c : S → R Bool} {f : S → R W} {pos spos py : Pos} {y : Str}
theorem de_lc (hc : X.calm = true) (hN : X.N.Nodup) (hi : PI X tg iter (tI Z Γ fi)) (ok : BlkOk X.N X.env.scope scope own) (hks : ∀ k ∈ ks, k ∈ own.map (·.2)) (h0 : ((own.map (·.2)).all fun i => (Γ.bor i).isNone) = true)
    (hg : ∀ (s : Shared) (H : Hp) (C : Addr) (cl : List (Str × Addr)) (fp : List Addr) (pa : Addr × List V), PG (X.blk s H scope (compEnvC scope cl C X.env) fp) tg (tG Z (Γ.blk pa.1 pa.2) ks t))
    (ht : ∀ (s : Shared) (H : Hp) (C : Addr) (cl : List (Str × Addr)) (fp : List Addr) (pa : Addr × List V), PTs (X.blk s H scope (compEnvC scope cl C X.env) fp) ifs (tT Z (Γ.blk pa.1 pa.2) c))
    (he : ∀ (s : Shared) (H : Hp) (C : Addr) (cl : List (Str × Addr)) (fp : List Addr) (pa : Addr × List V), PE (X.blk s H scope (compEnvC scope cl C X.env) fp) elt (tE Z (Γ.blk pa.1 pa.2) f))
    (hs : ∀ x, foldedSetIterable iter X.env x = pure x := by intro _; rfl) : PE X (.ListComp elt [⟨tg, iter, ifs, 0⟩] scope pos) (tE Z Γ (eLcD (own.map (·.2)) t fi c f)) :=
  pe_imp (pe_lc hc hN hi ok (fun s H C cl fp => pg_ex (hg s H C cl fp)) (fun s H C cl fp => pts_ex (ht s H C cl fp)) (fun s H C cl fp => pe_ex (he s H C cl fp)) hs) fun _ _ _ h => lc_D hks h0 h
end

def gLen : List D → Option D
  | [.lst ds] => some (.int ds.length)
  | [.tup ds] => some (.int ds.length)
  | [.str z] => if z.length ≤ lim then some (.int z.length) else none
  | [.scr xs] => some (.int xs.length)
  | _ => none
def gMax : List D → Option D
  | [.int i, .int j] => some (.int (if j > i then j else i))
  | _ => none
def gInt : List D → Option D
  | [.int i] => some (.int i)
  | [.bl b] => some (.int (if b then 1 else 0))
  | _ => none
def gList : List D → Option D
  | [.lst ds] => some (.lst ds)
  | [.tup ds] => some (.lst ds)
  | _ => none
def gTuple : List D → Option D
  | [.lst ds] => some (.tup ds)
  | [.tup ds] => some (.tup ds)
  | _ => none
section
variable {X : Cx} {Z : Zt} {Y : Addr → Prop} {H : Hp}
theorem vw_scr {xs : List Int} {v : V} (h : Vw Z Y H (.scr xs) v) : ∃ a, v = .ref a ∧ SqL Z.K H a (xs.map V.int) := by
  rcases h with h | ⟨o, L, q, _⟩
  · simp only [Rep] at h
    obtain ⟨a, e, t⟩ := h
    exact ⟨a, e, t.sq⟩
  · cases o <;> cases q
theorem od_len (hK : X.K = Z.K) : CallR X (.builtin "len") (rD Z gLen) := by
  intro pins s σ H xs us Q I r h
  obtain ⟨Y, ds, d, hx, hv, hg, q⟩ := h
  unfold gLen at hg
  split at hg
  · rename_i ls
    cases hg
    obtain ⟨v, vr, rfl, h1, h2⟩ := hv
    have h2 : vr = [] := h2
    subst h2
    obtain ⟨a, vs, rfl, ha, rl⟩ := vw_lst h1
    exact call_len pins s σ H _ us Q I r ⟨.ref a, vs.length, rfl, .inl ⟨vs, .of ha, rfl⟩, by rw [← rl.length]; exact q _ H (Same.refl H) rep_int⟩
  · rename_i ls
    cases hg
    obtain ⟨v, vr, rfl, h1, h2⟩ := hv
    have h2 : vr = [] := h2
    subst h2
    obtain ⟨a, vs, rfl, ha, rl⟩ := vw_tup h1
    exact call_len pins s σ H _ us Q I r ⟨.ref a, vs.length, rfl, .inr ⟨vs, by rw [hK]; exact ha, rfl⟩, by rw [← rl.length]; exact q _ H (Same.refl H) rep_int⟩
  · rename_i z
    split at hg
    · rename_i hz
      cases hg
      obtain ⟨v, vr, rfl, h1, h2⟩ := hv
      have h2 : vr = [] := h2
      subst h2
      cases vw_str h1
      exact call_len pins s σ H _ us Q I r ⟨.str z, z.length, rfl, ⟨lim_line hz, rfl⟩, q _ H (Same.refl H) rep_int⟩
    · cases hg
  · rename_i ls
    cases hg
    obtain ⟨v, vr, rfl, h1, h2⟩ := hv
    have h2 : vr = [] := h2
    subst h2
    obtain ⟨a, rfl, ha⟩ := vw_scr h1
    exact call_len pins s σ H _ us Q I r ⟨.ref a, _, rfl, .inl ⟨_, by rw [hK]; exact ha, rfl⟩, by rw [List.length_map]; exact q _ H (Same.refl H) rep_int⟩
  · cases hg
theorem vwl1 {ds : List D} {d : D} {xs : List V} (h : VwL Z Y H ds xs) (e : ds = [d]) : ∃ v, xs = [v] ∧ Vw Z Y H d v := by
  subst e
  obtain ⟨v, vr, rfl, h1, h2⟩ := h
  have h2 : vr = [] := h2
  subst h2
  exact ⟨v, rfl, h1⟩
theorem od_int : CallR X (.type "int") (rD Z gInt) := by
  intro pins s σ H xs us Q I r h
  obtain ⟨Y, ds, d, hx, hv, hg, q⟩ := h
  unfold gInt at hg
  split at hg
  · cases hg
    obtain ⟨v, rfl, h1⟩ := vwl1 hv rfl
    exact call_int1 pins s σ H _ us Q I r (.inl ⟨_, by rw [vw_int h1], q _ H (Same.refl H) rep_int⟩)
  · cases hg
    obtain ⟨v, rfl, h1⟩ := vwl1 hv rfl
    exact call_int1 pins s σ H _ us Q I r (.inr ⟨_, by rw [vw_bl h1], q _ H (Same.refl H) rep_int⟩)
  · cases hg
end
section
variable {X : Cx} {Z : Zt} {Γ : Gm} {a b c e : Expr} {es : List Expr} {pos p : Pos} {x : Str} {fa fb fc : S → R W} {fs : S → R (List W)}
theorem de_callT {n : String} {g : List D → Option D} (hc : CallR X (.type n) (rD Z g)) (hg : Gl X x) (hm : X.mg x = none) (hv : bootBuiltins x = some (.type n)) (ha : PA X (e :: es) (tA Z Γ fs)) (hn : x ≠ "__name__" := by decide) (hdb : (x == ("__debug__" : Str)) = false := by decide)
    (he : starEach (e :: es) X.env = (false, eval e X.env) :: starEach es X.env := by rfl) (hpl : (backTo pos (starEach es X.env)).any (·.1) = false := by rfl) : PE X (.Call (.Name x p) (e :: es) [] pos) (tE Z Γ (eApp g fs)) := by
  refine pe_imp (pe_callTy hc hg hm hv ha hn hdb he hpl) fun σ H Q h => ?_
  obtain ⟨s, Lv, R0, po⟩ := h
  exact ⟨s, Lv, R0, po.bind.mono fun vs H1 ⟨ws, s1, Lv1, _, R1, F1, r1, po1⟩ => fin_D R1 r1 po1⟩
def oPart (f : Option (S → R W)) : S → R (Option Int) := fun s => match f with
  | none => .ok none s
  | some f => (f s).bind fun w s1 => match w with
    | .d (.int i) => .ok (some i) s1
    | _ => .st
def eSl (fe : S → R W) (lo hi : Option (S → R W)) : S → R W := fun s => (fe s).bind fun w s1 => (oPart lo s1).bind fun l s2 => (oPart hi s2).bind fun h s3 => ofO s3 ((rdW s3 w).bind fun d => (gSl l h d).map W.d)
def eChain (g g' : List D → Option D) (fa fb fc : S → R W) : S → R W := fun s => (fa s).bind fun w s1 => (fb s1).bind fun u s2 => match (rdL s2 [w, u]).bind g with
  | some (.bl true) => (fc s2).bind fun z s3 => ofO s3 ((rdL s3 [u, z]).bind fun ds => (g' ds).map W.d)
  | some (.bl false) => .ok (.d (.bl false)) s2
  | _ => .st
theorem test_D {σ : L2.St} {H : Hp} {Q : Bool → Hp → Prop} {u : TE} (hu : ∀ σ H Q, tE Z Γ fa σ H Q → u σ H Q) (h : tT Z Γ (cVal fa) σ H Q) (hb : ∀ s w s1, fa s = .ok w s1 → (∃ k, w = .d (.bl k)) ∨ (rdW s1 w).bind truD = none) : u σ H fun x H1 => ∃ k, x = .bl k ∧ Q k H1 := by
  obtain ⟨s, Lv, R0, po⟩ := h
  refine hu _ _ _ ⟨s, Lv, R0, po.bind.mono fun v H1 ⟨w, s1, Lv1, e0, R1, F1, r1, po1⟩ => ?_⟩
  rcases hb _ _ _ e0 with ⟨k, rfl⟩ | q
  · have r1 : Rep Z (Γ.X Lv1) H1 (.bl k) v := r1
    simp only [Rep] at r1
    exact ⟨k, r1, po1.ok R1 rfl⟩
  · rw [q] at po1; exact po1.elim
def BlOnly (g : List D → Option D) : Prop := ∀ ds d, g ds = some d → ∃ k, d = .bl k
theorem bin_bl {g : List D → Option D} (hg : BlOnly g) (s : S) (w : W) (s1 : S) (h : eBin g fa fb s = .ok w s1) : ∃ k, w = .d (.bl k) := by
  unfold eBin at h
  cases e1 : fa s with
  | st => rw [e1] at h; cases h
  | er _ _ _ _ => rw [e1] at h; cases h
  | ok w1 s2 =>
    rw [e1] at h
    simp only [PD.R.bind_ok] at h
    cases e2 : fb s2 with
    | st => rw [e2] at h; cases h
    | er _ _ _ _ => rw [e2] at h; cases h
    | ok w2 s3 =>
      rw [e2] at h
      simp only [PD.R.bind_ok] at h
      cases e3 : rdL s3 [w1, w2] with
      | none => rw [e3] at h; cases h
      | some ds =>
        rw [e3] at h
        simp only [Option.bind_some] at h
        cases e4 : g ds with
        | none => rw [e4] at h; cases h
        | some d =>
          rw [e4] at h
          obtain ⟨k, rfl⟩ := hg ds d e4
          cases h
          exact ⟨k, rfl⟩
theorem dt_cmp {op : CmpOp} {g : List D → Option D} (hg : BlOnly g) (ho : OpR X (compareOp op) (rD2 Z g)) (ha : PE X a (tE Z Γ fa)) (hb : PE X b (tE Z Γ fb)) (hm : behindInMarks op b = false := by first | exact nomark _ | rfl) : PT X (.Compare a [op] [b] pos) (tT Z Γ (cVal (eBin g fa fb))) :=
  pt_imp (pt_cmpR ho ha hb hm) fun σ H Q h => test_D (fa := eBin g fa fb) (fun _ _ _ q => bin_D q) h fun s w s1 e => .inl (bin_bl hg s w s1 e)
end
theorem bl_gt : BlOnly gGt := fun ds d h => by
  unfold gGt at h
  split at h
  · cases h; exact ⟨_, rfl⟩
  · cases h
theorem bl_ge : BlOnly gGe := fun ds d h => by
  unfold gGe at h
  split at h
  · cases h; exact ⟨_, rfl⟩
  · cases h
theorem bl_eq : BlOnly gEq := fun ds d h => by
  unfold gEq at h
  split at h
  · rename_i a b
    cases e : dok a with
    | none => rw [e] at h; cases h
    | some p =>
      cases e2 : dok b with
      | none => rw [e, e2] at h; cases h
      | some q => rw [e, e2] at h; cases h; exact ⟨_, rfl⟩
  · cases h
theorem bl_ne : BlOnly gNe := fun ds d h => by
  unfold gNe at h
  split at h
  · rename_i a b
    cases e : dok a with
    | none => rw [e] at h; cases h
    | some p =>
      cases e2 : dok b with
      | none => rw [e, e2] at h; cases h
      | some q => rw [e, e2] at h; cases h; exact ⟨_, rfl⟩
  · cases h
theorem bl_in : BlOnly gIn := fun ds d h => by
  unfold gIn at h
  split at h
  · cases h; exact ⟨_, rfl⟩
  · rename_i a b
    cases e : dok a with
    | none => rw [e] at h; cases h
    | some p =>
      cases e2 : dok (.lst b) with
      | none => rw [e, e2] at h; cases h
      | some q =>
        rw [e, e2] at h
        simp only [Option.bind_some] at h
        split at h
        · cases h; exact ⟨_, rfl⟩
        · cases h
  · rename_i a b
    cases e : dok a with
    | none => rw [e] at h; cases h
    | some p =>
      cases e2 : dok (.tup b) with
      | none => rw [e, e2] at h; cases h
      | some q =>
        rw [e, e2] at h
        simp only [Option.bind_some] at h
        split at h
        · cases h; exact ⟨_, rfl⟩
        · cases h
  · cases h
end PD

set_option linter.all false
set_option maxRecDepth 100000
namespace PD
open PySem PySem.Spec PyProof.Rows L2

section
variable {prog : Program} {w : World} {A : Around} {E : Value → Shared → Prop} {s : Shared}
end
end PD

set_option linter.all false
set_option maxRecDepth 100000
namespace PD
open PySem PySem.Spec PyProof.Rows L2

section
variable {X : Cx} {Z : Zt} {Γ : Gm} {tg e e2 : Expr} {es : List Expr} {elts : List Expr} {kk : Nat} {fa : S → R W} {fs : S → R (List W)} {pos p tpos : Pos}
def gEnum : List W → Option (List D)
  | [.d (.lst ds)] => some (enumD ds)
  | [.d (.tup ds)] => some (enumD ds)
  | _ => none
def gZip : List W → Option (List D)
  | [.d (.lst ds), .d (.lst es)] => some (pairsD ds es)
  | [.d (.tup ds), .d (.tup es)] => some (pairsD ds es)
  | _ => none
def seqD : W → Option (List D)
  | .d (.lst ds) => some ds
  | .d (.tup ds) => some ds
  | .d (.str z) => some (signsD z)
  | _ => none
def iSeq (f : S → R W) : S → R (List D) := fun s => (f s).bind fun w s1 => ofO s1 (seqD w)
theorem di_seq (hK : X.K = Z.K) (ha : PE X e (tE Z Γ fa)) : PI X tg e (tI Z Γ (iSeq fa)) := by
  refine ⟨fun pins s σ H Rr I h => ?_⟩
  obtain ⟨s0, Lv, R0, po⟩ := h
  unfold iSeq at po
  cases e1 : fa s0 with
  | st => rw [e1] at po; exact po.elim
  | er c ns ds s1 => exact (di_lst hK ha).run pins s σ H Rr I ⟨s0, Lv, R0, by unfold iLst; rw [e1] at po ⊢; exact po⟩
  | ok w s1 =>
    rw [e1] at po
    simp only [PD.R.bind_ok] at po
    cases w with
    | p i => exact po.elim
    | d x =>
      cases x with
      | lst ds => exact (di_lst hK ha).run pins s σ H Rr I ⟨s0, Lv, R0, by unfold iLst; rw [e1]; exact po⟩
      | tup ds => exact (di_tup hK ha).run pins s σ H Rr I ⟨s0, Lv, R0, by unfold PD.iTup; rw [e1]; exact po⟩
      | str ds => exact (di_str ha).run pins s σ H Rr I ⟨s0, Lv, R0, by unfold iStrD; rw [e1]; exact po⟩
      | _ => exact po.elim
end
end PD

set_option linter.all false
set_option maxRecDepth 100000
namespace PD
open PySem PySem.Spec PyProof.Rows L2

theorem OwnRep.notbl {Z : Zt} {X : Addr → Prop} {H : Hp} {o : O} {v : V} {L : List Addr} (r : OwnRep Z X H o v L) {a : Addr} (hj : a ∈ L) {ps : Array Value} (h : H a = some (.tbl ps)) : False := by
  have fdl : ∀ (fs : List Fd) (vs : List V) (As : List Addr), FdL Z X H fs vs As → a ∉ As := by
    intro fs
    induction fs with
    | nil => intro vs As h h2; rw [h.2] at h2; cases h2
    | cons f fs ih =>
      intro vs As h2 h3
      cases f with
      | d x =>
        obtain ⟨_, vr, _, _, h2⟩ := h2
        exact ih vr As h2 h3
      | l ds =>
        obtain ⟨b, vr, ws, Ar, _, e2, e3, _, h2⟩ := h2
        subst e2
        rcases List.mem_cons.mp h3 with z | z
        · rw [z, e3] at h; cases h
        · exact ih vr Ar h2 z
  cases o with
  | lst ds =>
    obtain ⟨b, vs, _, e2, e3, _⟩ := r
    rw [e2] at hj
    rw [List.mem_singleton.mp hj, e3] at h; cases h
  | dic ks ds =>
    obtain ⟨b, vs, _, e2, _, e3, _⟩ := r
    rw [e2] at hj
    rw [List.mem_singleton.mp hj, e3] at h; cases h
  | dit ks ds =>
    obtain ⟨b, vs, _, e2, _, e3, _⟩ := r
    rw [e2] at hj
    rw [List.mem_singleton.mp hj, e3] at h; cases h
  | ins c ns fs =>
    obtain ⟨b, C, dx, vs, As, _, e2, _, _, e3, r⟩ := r
    rw [e2] at hj
    rcases List.mem_cons.mp hj with z | z
    · rw [z, e3] at h; cases h
    · exact fdl _ _ _ r z
  | dls ks fs =>
    obtain ⟨b, vs, As, _, e2, _, e3, r⟩ := r
    rw [e2] at hj
    rcases List.mem_cons.mp hj with z | z
    · rw [z, e3] at h; cases h
    · exact fdl _ _ _ r z

structure IpOk (op : Operator) (g : Int → Int → Option Int) : Prop where
  run : ∀ (X : Cx) (pins : List (Addr × Obj)) (s : Shared) (σ : L2.St) (H : Hp) (a b c : Int) (v u : Value) (Q : VK), Inv X pins σ H s → RelV (.int a) v → RelV (.int b) u → g a b = some c → Q (.int c) H →
    wpAny (model X.prog X.w) X.A (inplaceOp op v u) (EP X pins σ Q) X.xe s
section
variable {X : Cx} {Z : Zt} {Γ : Gm} {e : Expr} {es : List Expr} {fa : S → R W} {fr : S → R Rv} {fs : S → R (List Rv)} {pos : Pos} {x y z : Str} {st : Stmt} {body : Expr}
end

def Gm.hold (Γ : Gm) (L : List Addr) (H : Hp) : Gm := { Γ.plus L with pin := fun a o => Γ.pin a o ∨ (a ∈ L ∧ (∀ ps, o ≠ .tbl ps) ∧ H a = some o) }
def rCons (f : S → R Rv) (g : S → R (List Rv)) : S → R (List Rv) := fun s => (f s).bind fun r s1 => (g s1).bind fun rs s2 => .ok (r :: rs) s2
def rNil : S → R (List Rv) := fun s => .ok [] s
def rDat (f : S → R W) : S → R Rv := fun s => (f s).bind fun w s1 => ofO s1 ((fzW w).map .d)
section
variable {X : Cx} {Z : Zt} {Γ : Gm} {e : Expr} {es : List Expr} {fa : S → R W} {fr : S → R Rv} {fs : S → R (List Rv)} {pos : Pos} {x y z : Str}
theorem plus_nil : Γ.plus [] = Γ := by unfold Gm.plus; simp
theorem RvRep.hold {H H' : Hp} {r : Rv} {v : V} {L : List Addr} {X1 X2 : Addr → Prop} (rr : RvRep Z X1 H r v L) (F : Fw Z X1 H X2 H') (pn : ∀ a ∈ L, ∀ o, H a = some o → (∀ ps, o ≠ .tbl ps) → H' a = some o) : RvRep Z X2 H' r v L := by
  refine rr.mono F fun a ha => ?_
  cases r with
  | d x => rw [rr.1] at ha; cases ha
  | o x =>
    have rr : OwnRep Z X1 H x v L := rr
    cases q : H a with
    | none => exact absurd q (rr.there a ha)
    | some o => exact pn a ha o q fun ps z => rr.notbl ha (by rw [q, z])
end
def sPar2 (i j : Nat) (f : S → R (List Rv)) : S → SR := fun s => sBind (f s) fun rs s1 => match rs with
  | [r1, r2] => if i < s1.length ∧ j < s1.length then .nx ((s1.set i r1.sl).set j r2.sl) else .st
  | _ => .st
section
variable {X : Cx} {Z : Zt} {Γ : Gm} {fs : S → R (List Rv)} {pos : Pos} {x y z : Str} {a b c : Expr}
end
end PD

set_option linter.all false
set_option maxRecDepth 100000
namespace PD
open PySem PySem.Spec PyProof.Rows L2

inductive FB where
  | ok (r : Rv) (o : O) | er (c : Str) (ns : List Str) (ds : List D) (o : O) | st
structure KpB (Z : Zt) (B : List Addr) (H H' : Hp) : Prop where
  keep : ∀ a o, H a = some o → a ∉ B → (∀ ps, o ≠ .tbl ps) → H' a = some o
  ktbl : ∀ a ps, H a = some (.tbl ps) → ∃ qs, H' a = some (.tbl qs)
  tabs : LamX.Tabs Z.T H → LamX.Tabs Z.T H'
  there : ∀ a, H a ≠ none → H' a ≠ none
def spB (Z : Zt) (n : Nat) (g : O → List D → FB) : Sp := fun vs H Q E => vs.length = n + 1 ∧ ∃ (Y : Addr → Prop) (o : O) (B : List Addr) (v0 : V) (vr : List V) (ds : List D), vs = v0 :: vr ∧ (∀ a, Y a → H a ≠ none) ∧ (∀ a ∈ B, Y a) ∧ B.Nodup ∧ LamX.Tabs Z.T H ∧ OwnRep Z Y H o v0 B ∧ RepL Z Y H ds vr ∧ match g o ds with
  | .ok r o' => ∀ v H' B' L, KpB Z B H H' → B'.Nodup → (∀ b ∈ B', b ∈ B ∨ H b = none) → L.Nodup → (∀ b ∈ L, H b = none ∧ H' b ≠ none ∧ b ∉ B') → OwnRep Z (fun a => Y a ∨ a ∈ B' ∨ a ∈ L) H' o' v0 B' → RvRep Z (fun a => Y a ∨ a ∈ B' ∨ a ∈ L) H' r v L → Q v H'
  | .er c ns es o' => ∀ cls d H' B', KpB Z B H H' → B'.Nodup → (∀ b ∈ B', b ∈ B ∨ H b = none) → OwnRep Z (fun a => Y a ∨ a ∈ B') H' o' v0 B' → ExR Z (fun a => Y a ∨ a ∈ B') H' c ns es cls d → E cls d H'
  | .st => False
def GpB (Y : Addr → Prop) (H : Hp) (B : List Addr) (v0 : V) (E : XK) : Gm := ⟨Y, H, B, fun | 0 => some v0 | _ => none, fun cls d _ H' => E cls d H', fun _ _ => False⟩
def ow0 (s : S) : Option O := match s[(0 : Nat)]? with
  | some (.ow o) => some o
  | _ => none
def runB (n : Nat) (body : S → SR) (o : O) (ds : List D) : FB := match body (Sl.ow o :: ds.map Sl.fz ++ List.replicate (n - (ds.length + 1)) Sl.no) with
  | .nx s => match ow0 s with
    | some o' => .ok (.d .non) o'
    | none => .st
  | .rt r s => match ow0 s with
    | some o' => .ok r o'
    | none => .st
  | .er c ns ds s => match ow0 s with
    | some o' => .er c ns ds o'
    | none => .st
  | _ => .st
theorem ow0_ok {s : S} {o : O} (h : ow0 s = some o) : s[(0 : Nat)]? = some (.ow o) := by
  unfold ow0 at h
  split at h
  · rename_i o' e; cases h; exact e
  · cases h

section
variable {P : Program} {w : World} {Z : Zt} {base : Heap}
theorem rl_startB {Y : Addr → Prop} {H : Hp} {E : XK} {N : List Str} {o : O} {B : List Addr} {v0 : V} {ds : List D} {vs : List V} (hY : ∀ a, Y a → H a ≠ none) (hB : ∀ a ∈ B, Y a) (nB : B.Nodup) (tb : LamX.Tabs Z.T H) (r0 : OwnRep Z Y H o v0 B) (r : RepL Z Y H ds vs) :
    Rl Z (GpB Y H B v0 E) (Sl.ow o :: ds.map Sl.fz ++ List.replicate (N.length - (ds.length + 1)) Sl.no) (setL (fun _ => []) 0 B) (L2.start N (v0 :: vs)) H := by
  have hl := r.length
  have F : Fw Z Y H ((GpB Y H B v0 E).X (setL (fun _ => []) 0 B)) H := Fw.refl.less fun a h => by
    rcases h with h | ⟨i, h⟩
    · exact h
    · by_cases hi : i = 0
      · rw [hi, setL_same] at h; exact hB a h
      · rw [setL_ne hi] at h; cases h
  have s0 : ∀ i a, a ∈ setL (fun _ => ([] : List Addr)) 0 B i → i = 0 ∧ a ∈ B := fun i a h => by
    by_cases hi : i = 0
    · rw [hi, setL_same] at h; exact ⟨hi, h⟩
    · rw [setL_ne hi] at h; cases h
  refine { len := ?_, sl := fun i x hx => ?_, out := fun i hi => ?_, nd := fun i => ?_, dj := fun i j a h h2 => (s0 i a h).1.trans (s0 j a h2).1.symm, lvb := fun i a h => .inl (s0 i a h), keep := fun a o h _ _ => h, ktbl := fun a ps h => ⟨ps, h⟩, st0 := fun a h => h, x0 := hY, bx := hB, tb := tb, bor := fun i v h => ?_, pn := fun a o h => h.elim }
  · unfold L2.start; simp [hl]
  · cases i with
    | zero =>
      simp at hx
      subst hx
      rw [setL_same]
      refine ⟨v0, ?_, OwnRep.mono F (fun _ _ => rfl) r0⟩
      unfold L2.start; rfl
    | succ i =>
      rw [setL_ne (by omega)]
      rw [List.cons_append, List.getElem?_cons_succ] at hx
      by_cases hi : i < ds.length
      · rw [List.getElem?_append_left (by simpa using hi), List.getElem?_map, List.getElem?_eq_getElem hi] at hx
        cases hx
        obtain ⟨v, e, rv⟩ := r.get (List.getElem?_eq_getElem hi)
        refine ⟨rfl, v, ?_, rv.mono F⟩
        unfold L2.start
        rw [List.map_cons, List.cons_append, List.getElem?_cons_succ, List.getElem?_append_left (by simp; omega), List.getElem?_map, e]
        rfl
      · rw [List.getElem?_append_right (by simp; omega), List.getElem?_replicate] at hx
        split at hx
        · cases hx; rfl
        · cases hx
  · have : i ≠ 0 := by
      rintro rfl
      simp at hi
    exact setL_ne this
  · by_cases hi : i = 0
    · rw [hi, setL_same]; exact nB
    · rw [setL_ne hi]; exact List.nodup_nil
  · cases i with
    | zero => cases h; unfold L2.start; rfl
    | succ i => cases h
theorem okB {x qual : Str} {st : Stmt} {f : Addr} {fd : FuncData} {N ps : List Str} {k n : Nat} {body : S → SR} (F : Fun Z.K x qual st f fd) (Sc : FnScope N ps (defScope st)) (hps : ps.length = n + 1)
    (hb : ∀ (cdv : Value) (A : Around) (outer : List Env) (s : Shared) (Y : Addr → Prop) (H : Hp) (B : List Addr) (v0 : V) (E : XK), Room k (A.deeper (envOfC qual (defScope st) s.heap.objs.size f cdv)) →
      PSs (cxOf (L2.CX P w) P w Z.K Z.mg base N qual (defScope st) f cdv A outer s H E) (defBody st) (tS Z (GpB Y H B v0 E) body)) :
    FnOk P w Z.K Z.mg base (L2.CX P w) (k + 1) f fd ps (spB Z n (runB N.length body)) := by
  refine F.okX Sc (fun vs H Q E h => by rw [hps]; exact h.1) fun cdv A outer s H vs Q E hr h => ?_
  obtain ⟨hl, Y, o, B, v0, vr, ds, rfl, hY, hB, nB, tb, r0, r, po⟩ := h
  refine ⟨_, hb cdv A outer s Y H B v0 E hr, _, _, rl_startB (N := N) (E := E) hY hB nB tb r0 r, ?_⟩
  unfold runB at po
  have kp : ∀ {s' : S} {L : List Addr} {σ' : L2.St} {H' : Hp} {Lv' : Nat → List Addr}, Rl Z ((GpB Y H B v0 E).plus L) s' Lv' σ' H' → KpB Z B H H' := fun R' =>
    ⟨fun a o h n t => R'.keep a o h n t, R'.ktbl, fun _ => R'.tb, R'.st0⟩
  have own : ∀ {s' : S} {L : List Addr} {σ' : L2.St} {H' : Hp} {Lv' : Nat → List Addr} {o' : O}, Rl Z ((GpB Y H B v0 E).plus L) s' Lv' σ' H' → ow0 s' = some o' → (Lv' 0).Nodup ∧ (∀ b ∈ Lv' 0, b ∈ B ∨ H b = none) ∧ OwnRep Z (fun a => Y a ∨ a ∈ Lv' 0 ∨ a ∈ L) H' o' v0 (Lv' 0) := fun {s' L σ' H' Lv' o'} R' e => by
    obtain ⟨v, e1, e2⟩ := R'.ow (ow0_ok e)
    rw [R'.bor 0 v0 rfl] at e1
    cases e1
    refine ⟨R'.nd 0, fun b hb => (R'.lvb 0 b hb).imp (·.2) (·.1), e2.mono (Fw.refl.less fun a h => ?_) fun _ _ => rfl⟩
    rcases h with h | h | h
    · exact .inl (.inl h)
    · exact .inr ⟨0, h⟩
    · exact .inl (.inr h)
  generalize body (Sl.ow o :: ds.map Sl.fz ++ List.replicate (N.length - (ds.length + 1)) Sl.no) = b at po
  cases b with
  | nx s' =>
    intro σ' H' Lv' R' F'
    simp only at po
    cases e0 : ow0 s' with
    | none => rw [e0] at po; exact po.elim
    | some o' =>
      rw [e0] at po
      have R1 : Rl Z ((GpB Y H B v0 E).plus []) s' Lv' σ' H' := by rw [plus_nil]; exact R'
      obtain ⟨q1, q2, q3⟩ := own R1 e0
      exact po .non H' (Lv' 0) [] (kp R1) q1 q2 List.nodup_nil (fun b hb => by cases hb) q3 ⟨rfl, rep_non⟩
  | rt q s' =>
    intro v σ' H' Lv' L R' F' nd nw rr
    simp only at po
    cases e0 : ow0 s' with
    | none => rw [e0] at po; exact po.elim
    | some o' =>
      rw [e0] at po
      obtain ⟨q1, q2, q3⟩ := own R' e0
      refine po v H' (Lv' 0) L (kp R') q1 q2 nd (fun b hb => ⟨(nw b hb).2, R'.x0 b (.inr hb), fun q => (nw b hb).1 (.inr ⟨0, q⟩)⟩) q3 (rr.mono (Fw.refl.less fun a h => ?_) fun _ _ => rfl)
      rcases h with h | h | h
      · exact .inl (.inl h)
      · exact .inr ⟨0, h⟩
      · exact .inl (.inr h)
  | er c ns es s' =>
    intro cls d σ' H' Lv' R' F' x
    simp only at po
    cases e0 : ow0 s' with
    | none => rw [e0] at po; exact po.elim
    | some o' =>
      rw [e0] at po
      have R1 : Rl Z ((GpB Y H B v0 E).plus []) s' Lv' σ' H' := by rw [plus_nil]; exact R'
      obtain ⟨q1, q2, q3⟩ := own R1 e0
      have G : ∀ a, (Y a ∨ a ∈ Lv' 0) → (GpB Y H B v0 E).X Lv' a := fun a h => h.imp id fun h => ⟨0, h⟩
      refine po cls d H' (Lv' 0) (kp R1) q1 q2 (q3.mono (Fw.refl.less fun a h => h.imp id .inl) fun _ _ => rfl) ?_
      obtain ⟨C, e1, e2, e3⟩ := x
      exact ⟨C, e1, e2, e3.imp id fun ⟨dd, vs, a, b, c, d⟩ => ⟨dd, vs, a, b, c, d.mono (Fw.refl.less G)⟩⟩
  | bk s' => exact po.elim
  | ct s' => exact po.elim
  | st => exact po.elim
end

section
variable {Z : Zt} {Γ : Gm} {s : S} {Lv : Nat → List Addr} {σ : L2.St} {H H' : Hp}
theorem Rl.putM (R : Rl Z Γ s Lv σ H) {i : Nat} {x : Sl} {L M : List Addr} (hi : i < s.length)
    (kp : ∀ a o, H a = some o → a ∉ Lv i → (∀ ps, o ≠ .tbl ps) → H' a = some o) (kt : ∀ a ps, H a = some (.tbl ps) → ∃ qs, H' a = some (.tbl qs)) (tb : LamX.Tabs Z.T H → LamX.Tabs Z.T H')
    (nd : L.Nodup) (nw : ∀ a ∈ L, a ∈ Lv i ∨ H a = none) (st : ∀ a, H a ≠ none → H' a ≠ none) (hM : ∀ b ∈ M, H b = none ∧ H' b ≠ none ∧ b ∉ L)
    (r : SloR Z ((Γ.plus M).X (setL Lv i L)) H' x σ[i]? L) : Rl Z (Γ.plus M) (s.set i x) (setL Lv i L) σ H' ∧ Fw Z (Γ.X Lv) H ((Γ.plus M).X (setL Lv i L)) H' := by
  have h0 : ∀ a, H a = none → Γ.H0 a = none := fun a h => by
    cases q : Γ.H0 a with
    | none => rfl
    | some o => exact absurd h (R.st0 a (by rw [q]; simp))
  have F : Fw Z (Γ.X Lv) H ((Γ.plus M).X (setL Lv i L)) H' := by
    refine ⟨fun a o h n t => kp a o h (fun q => n (.inr ⟨i, q⟩)) t, kt, fun a h => ?_, tb⟩
    rcases h with (h | h) | ⟨j, h⟩
    · exact .inl (.inl h)
    · exact .inr (hM a h).1
    · by_cases hj : j = i
      · subst hj
        rw [setL_same] at h
        rcases nw a h with q | q
        · exact .inl (.inr ⟨j, q⟩)
        · exact .inr q
      · rw [setL_ne hj] at h
        exact .inl (.inr ⟨j, h⟩)
  refine ⟨⟨by rw [List.length_set]; exact R.len, fun j y hy => ?_, fun j hj => ?_, fun j => ?_, fun j k a hj hk => ?_, fun j a hj => ?_, fun a o h n t => ?_, fun a ps h => ?_, fun a h => st a (R.st0 a h), fun a h => ?_, fun a h => .inl (R.bx a h), tb R.tb, R.bor, fun a o h => ?_⟩, F⟩
  · by_cases hj : j = i
    · subst hj
      rw [List.getElem?_set_self hi] at hy
      cases hy
      rw [setL_same]
      exact r
    · rw [List.getElem?_set_ne (Ne.symm hj)] at hy
      rw [setL_ne hj]
      refine (R.sl j y hy).mono F fun a ha => ?_
      have h := R.there ha
      cases q : H a with
      | none => exact absurd q h
      | some o => exact kp a o q (fun z => hj (R.dj j i a ha z)) (fun ps z => R.notbl ha (by rw [q, z]))
  · rw [List.length_set] at hj
    have hne : j ≠ i := by omega
    rw [setL_ne hne]
    exact R.out j hj
  · by_cases hj : j = i
    · subst hj; rw [setL_same]; exact nd
    · rw [setL_ne hj]; exact R.nd j
  · by_cases hj1 : j = i
    · by_cases hk1 : k = i
      · rw [hj1, hk1]
      · rw [setL_ne hk1] at hk
        rw [hj1, setL_same] at hj
        rcases nw a hj with q | q
        · exact absurd (R.dj k i a hk q) hk1
        · exact absurd q (R.there hk)
    · rw [setL_ne hj1] at hj
      by_cases hk1 : k = i
      · rw [hk1, setL_same] at hk
        rcases nw a hk with q | q
        · exact absurd (R.dj j i a hj q) hj1
        · exact absurd q (R.there hj)
      · rw [setL_ne hk1] at hk
        exact R.dj j k a hj hk
  · by_cases hj1 : j = i
    · rw [hj1, setL_same] at hj
      rcases nw a hj with q | q
      · rw [hj1]
        refine (R.lvb i a q).imp id fun z => ⟨z.1, fun y => y.elim z.2 fun y => (hM a y).2.2 hj⟩
      · exact .inr ⟨h0 a q, fun y => y.elim (fun z => R.x0 a z q) fun y => (hM a y).2.2 hj⟩
    · rw [setL_ne hj1] at hj
      exact (R.lvb j a hj).imp id fun z => ⟨z.1, fun y => y.elim z.2 fun y => R.there hj (hM a y).1⟩
  · have e := R.keep a o h n t
    refine kp a o e (fun q => ?_) t
    rcases R.lvb i a q with z | z
    · exact n z.2
    · have h : Γ.H0 a = some o := h
      rw [z.1] at h; cases h
  · obtain ⟨qs, e⟩ := R.ktbl a ps h
    exact kt a qs e
  · rcases h with h | h
    · exact st a (R.x0 a h)
    · exact (hM a h).2.1
  · obtain ⟨p1, p2, p3, p4⟩ := R.pn a o h
    refine ⟨p1.imp .inl id, p2, p3, kp a o p4 (fun q => ?_) p3⟩
    rcases R.lvb i a q with z | z
    · rcases p2 with p2 | ⟨φ, rfl⟩
      · exact p2 z.2
      · exact R.noext q p4
    · rcases p1 with p1 | ⟨φ, rfl⟩
      · exact z.2 p1
      · exact R.noext q p4
end
def isOwn (s : S) (i : Nat) : Bool := match s[i]? with
  | some (.ow _) => true
  | _ => false
theorem isOwn_ok {s : S} {i : Nat} (h : isOwn s i = true) : ∃ o, s[i]? = some (.ow o) := by
  unfold isOwn at h
  split at h
  · rename_i o e; exact ⟨o, e⟩
  · cases h
def goB (n i : Nat) (g : O → List D → FB) (ws : List W) (s1 : S) : R Rv := match fzL ws, s1[i]? with
  | some ds, some (.ow o) => if ds.length = n then (match g o ds with
    | .ok r o' => .ok r (s1.set i (.ow o'))
    | .er c ns es o' => .er c ns es (s1.set i (.ow o'))
    | .st => .st) else .st
  | _, _ => .st
def rCallB (n i : Nat) (g : O → List D → FB) (f : S → R (List W)) : S → R Rv := fun s => if isOwn s i = true then (f s).bind (goB n i g) else .st
section
variable {X : Cx} {Z : Zt} {Γ : Gm} {e : Expr} {es : List Expr} {fs : S → R (List W)} {pos p p1 : Pos} {x y : Str} {k n : Nat} {f : Addr} {fd : FuncData} {ps : List Str} {g : O → List D → FB}
theorem goB_D (i : Nat) (hE : EConst Γ) {s : S} {Lv : Nat → List Addr} {σ : L2.St} {H : Hp} {Q : VK} {ws : List W} {vs : List V} {v0 : V} (R1 : Rl Z Γ s Lv σ H) (r1 : WRepL Z (Γ.X Lv) σ H ws vs) (hv : σ[i]? = some (some v0)) 
    (po : match goB n i g ws s with
      | .ok a s' => ∀ v H' Lv' L, Rl Z (Γ.plus L) s' Lv' σ H' → Fw Z (Γ.X Lv) H ((Γ.plus L).X Lv') H' → L.Nodup → (∀ b ∈ L, ¬ Γ.X Lv' b ∧ Γ.H0 b = none) → RvRep Z ((Γ.plus L).X Lv') H' a v L → Q v H'
      | .er c ns ds s' => ∀ cls d H' Lv', Rl Z Γ s' Lv' σ H' → Fw Z (Γ.X Lv) H (Γ.X Lv') H' → ExR Z (Γ.X Lv') H' c ns ds cls d → Γ.E cls d σ H'
      | .st => False) : spB Z n g (v0 :: vs) H Q (fun cls d H => ∀ σ, Γ.E cls d σ H) := by
  unfold goB at po
  cases e1 : fzL ws with
  | none => rw [e1] at po; exact po.elim
  | some ds =>
    cases e2 : s[i]? with
    | none => rw [e1, e2] at po; exact po.elim
    | some sl =>
      cases sl with
      | no => rw [e1, e2] at po; exact po.elim
      | fz d => rw [e1, e2] at po; exact po.elim
      | ow o =>
        rw [e1, e2] at po
        simp only at po
        by_cases hl : ds.length = n
        · rw [if_pos hl] at po
          have r := fzL_ok r1 e1
          obtain ⟨v, ev, ro⟩ := R1.ow e2
          rw [hv] at ev; cases ev
          have hi : i < s.length := (List.getElem?_eq_some_iff.mp e2).1
          refine ⟨by rw [List.length_cons, ← r.length, hl], Γ.X Lv, o, Lv i, v0, vs, ds, rfl, fun a h => R1.xs h, fun a h => .inr ⟨i, h⟩, R1.nd i, R1.tb, ro, r, ?_⟩
          cases e3 : g o ds with
          | st => rw [e3] at po; exact po.elim
          | er c ns es o' =>
            rw [e3] at po
            simp only at po
            intro cls d H' B' kp nB nw ro' x σ'
            have G : ∀ a, Γ.X (setL Lv i B') a → Γ.X Lv a ∨ a ∈ B' := fun a h => by
              rcases h with h | ⟨j, h⟩
              · exact .inl (.inl h)
              · by_cases hj : j = i
                · rw [hj, setL_same] at h; exact .inr h
                · rw [setL_ne hj] at h; exact .inl (.inr ⟨j, h⟩)
            have q := R1.putM (M := []) (x := .ow o') hi kp.keep kp.ktbl kp.tabs nB nw kp.there (fun b hb => by cases hb) ⟨v0, hv, by rw [plus_nil]; exact ro'.mono (Fw.refl.less G) fun _ _ => rfl⟩
            rw [plus_nil] at q
            refine hE _ _ _ _ _ (po cls d H' _ q.1 q.2 ?_)
            obtain ⟨C, e1, e2, e3⟩ := x
            exact ⟨C, e1, e2, e3.imp id fun ⟨dd, vs, a, b, c, d⟩ => ⟨dd, vs, a, b, c, d.mono (Fw.refl.less G)⟩⟩
          | ok r' o' =>
            rw [e3] at po
            simp only at po
            intro v H' B' L kp nB nw nd nl ro' rr
            have G : ∀ a, (Γ.plus L).X (setL Lv i B') a → Γ.X Lv a ∨ a ∈ B' ∨ a ∈ L := fun a h => by
              rcases h with (h | h) | ⟨j, h⟩
              · exact .inl (.inl h)
              · exact .inr (.inr h)
              · by_cases hj : j = i
                · rw [hj, setL_same] at h; exact .inr (.inl h)
                · rw [setL_ne hj] at h; exact .inl (.inr ⟨j, h⟩)
            have q := R1.putM (M := L) (x := .ow o') hi kp.keep kp.ktbl kp.tabs nB nw kp.there nl ⟨v0, hv, ro'.mono (Fw.refl.less G) fun _ _ => rfl⟩
            refine po v H' _ L q.1 q.2 nd (fun b hb => ⟨fun z => ?_, ?_⟩) (rr.mono (Fw.refl.less G) fun _ _ => rfl)
            · rcases z with z | ⟨j, z⟩
              · exact R1.x0 b z (nl b hb).1
              · by_cases hj : j = i
                · rw [hj, setL_same] at z; exact (nl b hb).2.2 z
                · rw [setL_ne hj] at z; exact R1.there z (nl b hb).1
            · cases q : Γ.H0 b with
              | none => rfl
              | some o => exact absurd (nl b hb).1 (R1.st0 b (by rw [q]; simp))
        · rw [if_neg hl] at po; exact po.elim
theorem callB_D (i : Nat) (hE : EConst Γ) {σ : L2.St} {H : Hp} {Q : VK} (h : tR Z Γ (rCallB n i g fs) σ H Q) : tCall (spB Z n g) [] (fun cls d H => ∀ σ, Γ.E cls d σ H) (tCons (fun σ H Q => ∃ v, σ[i]? = some (some v) ∧ Q v H) (tA Z Γ fs)) σ H Q := by
  obtain ⟨s, Lv, R0, po⟩ := h
  unfold rCallB at po
  by_cases hw : isOwn s i = true
  · rw [if_pos hw] at po
    obtain ⟨o0, e0⟩ := isOwn_ok hw
    obtain ⟨v0, hv, _⟩ := R0.ow e0
    refine ⟨v0, hv, s, Lv, R0, ?_⟩
    cases e1 : fs s with
    | st => rw [e1] at po; exact po.elim
    | er c ns ds s1 => rw [e1] at po; exact po
    | ok ws s1 =>
      rw [e1] at po
      simp only [PD.R.bind_ok] at po
      intro vs H1 Lv1 R1 F1 r1
      show spB Z n g ((v0 :: vs) ++ []) H1 Q _
      rw [List.append_nil]
      refine goB_D i hE R1 r1 hv ?_
      revert po
      generalize goB n i g ws s1 = q
      intro po
      cases q with
      | st => exact po
      | er c ns ds s2 => exact fun cls d H' Lv' R' F' x => po cls d H' Lv' R' (F1.trans F') x
      | ok a s2 => exact fun v H' Lv' L R' F' => po v H' Lv' L R' (F1.trans F')
  · rw [if_neg hw] at po; exact po.elim
theorem dr_callB (i : Nat) (F : FnOk X.prog X.w X.K X.mg X.base (L2.CX X.prog X.w) k f fd ps (spB Z n g)) (hr : Room k X.A) (hg : Gl X x) (hm : X.mg x = some (.ref f)) (hk : PySem.W.keepIn X.K (.ref f) = true) (hb : Binds X.K fd ps []) (px : PX X Γ) (hE : EConst Γ)
    (ha : PA X es (tA Z Γ fs)) (hN : X.N[i]? = some y := by rfl) (hv : Vis X.env.scope y := by first | exact Or.inl rfl | exact Or.inr (Or.inl rfl) | exact Or.inr (Or.inr rfl)) (hd : (y == ("__debug__" : Str)) = false := by decide) (hcd : (y == ("__classdict__" : Str)) = false := by decide)
    (hdb : (x == ("__debug__" : Str)) = false := by decide) (he : starEach (.Name y p1 :: es) X.env = (false, eval (.Name y p1) X.env) :: starEach es X.env := by rfl) (hpl : (backTo pos (starEach es X.env)).any (·.1) = false := by rfl) :
    PE X (.Call (.Name x p) (.Name y p1 :: es) [] pos) (tR Z Γ (rCallB n i g fs)) :=
  pe_imp (pe_call F hr hg hm hk hb .nil px (pa_cons (pv i hN hv hd hcd) ha he) hdb he hpl) fun _ _ _ h => callB_D i hE h
theorem de_callO (i : Nat) (F : FnOk X.prog X.w X.K X.mg X.base (L2.CX X.prog X.w) k f fd ps (spB Z n g)) (hr : Room k X.A) (hg : Gl X x) (hm : X.mg x = some (.ref f)) (hk : PySem.W.keepIn X.K (.ref f) = true) (hb : Binds X.K fd ps []) (px : PX X Γ) (hE : EConst Γ)
    (ha : PA X es (tA Z Γ fs)) (hN : X.N[i]? = some y := by rfl) (hv : Vis X.env.scope y := by first | exact Or.inl rfl | exact Or.inr (Or.inl rfl) | exact Or.inr (Or.inr rfl)) (hd : (y == ("__debug__" : Str)) = false := by decide) (hcd : (y == ("__classdict__" : Str)) = false := by decide)
    (hdb : (x == ("__debug__" : Str)) = false := by decide) (he : starEach (.Name y p1 :: es) X.env = (false, eval (.Name y p1) X.env) :: starEach es X.env := by rfl) (hpl : (backTo pos (starEach es X.env)).any (·.1) = false := by rfl) :
    PE X (.Call (.Name x p) (.Name y p1 :: es) [] pos) (tE Z Γ (eFz (rCallB n i g fs))) := de_fz (dr_callB i F hr hg hm hk hb px hE ha hN hv hd hcd hdb he hpl)
theorem econst_B {Y : Addr → Prop} {H : Hp} {B : List Addr} {v0 : V} {E : XK} : EConst (GpB Y H B v0 E) := fun _ _ _ _ _ h => h
end
end PD

set_option linter.all false
set_option maxRecDepth 100000
namespace PD
open PySem PySem.Spec PyProof.Rows L2

section
variable {κ α β : Type} [DecidableEq κ]
def dgetK : List κ → List α → κ → Option α
  | x :: ks, v :: vs, k => if x = k then some v else dgetK ks vs k
  | _, _, _ => none
def hasK (ks : List κ) (k : κ) : Bool := ks.any fun x => decide (x = k)
def replK : List κ → List α → κ → α → List α
  | x :: ks, v :: vs, k, d => (if x = k then d else v) :: replK ks vs k d
  | _, _, _, _ => []
def putKs (ks : List κ) (k : κ) : List κ := if hasK ks k = true then ks else ks ++ [k]
def putVs (ks : List κ) (vs : List α) (k : κ) (d : α) : List α := if hasK ks k = true then replK ks vs k d else vs ++ [d]
theorem hasK_zip (k : κ) : ∀ (ks : List κ) (vs : List V), ks.length = vs.length → ((ks.zip vs).any fun kv => decide (kv.1 = k)) = hasK ks k
  | [], _, _ => rfl
  | x :: ks, [], h => by simp at h
  | x :: ks, v :: vs, h => by
    have := hasK_zip k ks vs (by simpa using h)
    simp only [hasK] at this
    simp only [List.zip_cons_cons, List.any_cons, hasK, this]
theorem replK_zip (k : κ) (d : V) : ∀ (ks : List κ) (vs : List V), ks.length = vs.length → ((ks.zip vs).map fun kv => if kv.1 = k then (kv.1, d) else kv) = ks.zip (replK ks vs k d)
  | [], _, _ => rfl
  | x :: ks, [], h => by simp at h
  | x :: ks, v :: vs, h => by
    have := replK_zip k d ks vs (by simpa using h)
    simp only [List.zip_cons_cons, List.map_cons, replK, this]
    by_cases e : x = k
    · rw [if_pos e, if_pos e]
    · rw [if_neg e, if_neg e]
theorem replK_length {k : κ} {d : α} : ∀ {ks : List κ} {vs : List α}, ks.length = vs.length → (replK ks vs k d).length = vs.length
  | [], [], _ => rfl
  | [], v :: vs, h => by simp at h
  | x :: ks, [], h => by simp at h
  | x :: ks, v :: vs, h => by simp only [replK, List.length_cons, replK_length (ks := ks) (vs := vs) (by simpa using h)]
theorem putK_zip (k : κ) (d : V) (ks : List κ) (vs : List V) (h : ks.length = vs.length) : putK (ks.zip vs) k d = (putKs ks k).zip (putVs ks vs k d) := by
  unfold putK putKs putVs
  rw [hasK_zip k ks vs h]
  by_cases e : hasK ks k = true
  · rw [if_pos e, if_pos e, if_pos e, replK_zip k d ks vs h]
  · rw [if_neg e, if_neg e, if_neg e, List.zip_append h]; rfl
theorem put_length {k : κ} {d : α} {ks : List κ} {vs : List α} (h : ks.length = vs.length) : (putKs ks k).length = (putVs ks vs k d).length := by
  unfold putKs putVs
  split
  · rw [replK_length h, h]
  · rw [List.length_append, List.length_append, h]; rfl
variable {Z : Zt} {Y : Addr → Prop} {H : Hp}
theorem replK_rep {k : κ} {d : D} {v : V} (r : Rep Z Y H d v) : ∀ {ks : List κ} {ds : List D} {vs : List V}, RepL Z Y H ds vs → RepL Z Y H (replK ks ds k d) (replK ks vs k v)
  | [], ds, vs, h => by cases ds <;> cases vs <;> simp only [replK, RepL]
  | x :: ks, [], vs, h => by simp only [RepL] at h; subst h; simp only [replK, RepL]
  | x :: ks, e :: ds, vs, h => by
    simp only [RepL] at h
    obtain ⟨u, ur, rfl, r1, h⟩ := h
    simp only [replK, RepL]
    refine ⟨_, _, rfl, ?_, replK_rep r h⟩
    split
    · exact r
    · exact r1
theorem put_rep {k : κ} {d : D} {v : V} {ks : List κ} {ds : List D} {vs : List V} (r : Rep Z Y H d v) (h : RepL Z Y H ds vs) : RepL Z Y H (putVs ks ds k d) (putVs ks vs k v) := by
  unfold putVs
  split
  · exact replK_rep r h
  · exact h.app (RepL.one r)
theorem dgetK_rep {k : κ} : ∀ {ks : List κ} {ds : List D} {vs : List V} {d : D}, RepL Z Y H ds vs → dgetK ks ds k = some d → ∃ v, valV (ks.zip vs) k = some v ∧ Rep Z Y H d v
  | [], ds, vs, d, h, e => by cases ds <;> cases e
  | x :: ks, [], vs, d, h, e => by cases e
  | x :: ks, c :: ds, vs, d, h, e => by
    simp only [RepL] at h
    obtain ⟨u, ur, rfl, r1, h⟩ := h
    simp only [dgetK] at e
    rw [List.zip_cons_cons]
    by_cases q : x = k
    · rw [if_pos q] at e
      cases e
      exact ⟨u, valV_pos q, r1⟩
    · rw [if_neg q] at e
      rw [valV_neg (p := (x, u)) q]
      exact dgetK_rep h e
theorem hasK_val {k : κ} {ks : List κ} {vs : List V} (h : ks.length = vs.length) : (valV (ks.zip vs) k).isSome = hasK ks k := by
  rw [← valV_any, hasK_zip k ks vs h]
end

def keyD : D → Option Key
  | .int i => some (.inl i)
  | .str s => some (.inr s)
  | _ => none
theorem keyD_rep {Z : Zt} {Y : Addr → Prop} {H : Hp} {d : D} {v : V} {k : Key} (h : Vw Z Y H d v) (e : keyD d = some k) : v = kV k := by
  cases d <;> first | (cases e; done) | skip
  · cases e; exact vw_int h
  · cases e; exact vw_str h
def O.put : O → D → D → Option O
  | .lst ds, .int n, d => (ixN ds.length n).map fun j => .lst (ds.set j d)
  | .dic ks vs, k, d => (keyD k).bind fun k => if vs.length < lim then some (.dic (putKs ks k) (putVs ks vs k d)) else none
  | _, _, _ => none
def gSet (i : Nat) (f : S → R W) : D → S → R Unit := fun d s => if isOwn s i = true then (f s).bind fun w s1 => match fzW w, s1[i]? with
  | some k, some (.ow o) => (match o.put k d with
    | some o' => .ok () (s1.set i (.ow o'))
    | none => .st)
  | _, _ => .st else .st
def rSet2 : TSet := fun o i v H Q => rSetL o i v H Q ∨ rSetD o i v H Q
theorem set_two {X : Cx} (hu : X.A.units + 1 < cLine) : PSet X rSet2 := fun pins s σ H o i v ov iv u Q I ro ri rv h => by
  rcases h with h | h
  · exact set_list pins s σ H o i v ov iv u Q I ro ri rv h
  · exact set_dict hu pins s σ H o i v ov iv u Q I ro ri rv h
theorem RepL.set {Z : Zt} {Y : Addr → Prop} {H : Hp} {d : D} {v : V} (r : Rep Z Y H d v) : ∀ {ds : List D} {vs : List V} (j : Nat), RepL Z Y H ds vs → RepL Z Y H (ds.set j d) (vs.set j v)
  | [], vs, j, h => by simp only [RepL] at h; subst h; simp only [List.set_nil, RepL]
  | e :: ds, vs, 0, h => by
    simp only [RepL] at h
    obtain ⟨u, ur, rfl, r1, h⟩ := h
    simp only [List.set_cons_zero, RepL]
    exact ⟨_, _, rfl, r, h⟩
  | e :: ds, vs, j + 1, h => by
    simp only [RepL] at h
    obtain ⟨u, ur, rfl, r1, h⟩ := h
    simp only [List.set_cons_succ, RepL]
    exact ⟨_, _, rfl, r1, RepL.set r j h⟩
section
variable {X : Cx} {Z : Zt} {Γ : Gm} {e i : Expr} {fa : S → R W} {pos p1 : Pos} {x : Str}
theorem put_D {s : S} {Lv : Nat → List Addr} {σ : L2.St} {H : Hp} {n : Nat} {o o' : O} {k d : D} {v0 kv v : V} {Q : Hp → Prop} (R1 : Rl Z Γ s Lv σ H) (e2 : s[n]? = some (.ow o)) (hv : σ[n]? = some (some v0)) (rk : Rep Z (Γ.X Lv) H k kv) (rd : Rep Z (Γ.X Lv) H d v) (e3 : o.put k d = some o')
    (po : ∀ H', Rl Z Γ (s.set n (.ow o')) Lv σ H' → Fw Z (Γ.X Lv) H (Γ.X Lv) H' → Q H') : rSet2 v0 kv v H Q := by
  unfold O.put at e3
  split at e3
  · rename_i ds m
    obtain ⟨a, vs, p1, p2, p3, p4⟩ := R1.lstAt e2
    rw [hv] at p1; cases p1
    cases e4 : ixN ds.length m with
    | none => rw [e4] at e3; cases e3
    | some j =>
      rw [e4] at e3; cases e3
      simp only [Rep] at rk
      subst rk
      obtain ⟨R2, F2⟩ := R1.lstPut (ds' := ds.set j d) (vs' := vs.set j v) e2 hv p2 p3 (p4.set rd j)
      exact .inl ⟨a, vs, m, j, rfl, rfl, p3, by rw [← p4.length]; exact e4, po _ R2 F2⟩
  · rename_i ks vs
    cases e4 : keyD k with
    | none => rw [e4] at e3; cases e3
    | some k' =>
      rw [e4] at e3
      simp only [Option.bind_some] at e3
      by_cases hl : vs.length < lim
      · rw [if_pos hl] at e3
        cases e3
        obtain ⟨v1, e5, a, us, rfl, q2, q3, q4, q5⟩ := R1.ow e2
        rw [hv] at e5; cases e5
        have ek := keyD_rep (.inl rk) e4
        subst ek
        have hlen : (ks.zip us).length < sizeLine := by
          rw [List.length_zip, q3, Nat.min_self, ← q5.length]
          exact lim_lt hl
        have pz := putK_zip k' v ks us q3
        obtain ⟨R2, F2⟩ := R1.ownPut (x := .dic (putKs ks k') (putVs ks vs k' d)) (o' := .dK (putK (ks.zip us) k' v)) (List.getElem?_eq_some_iff.mp e2).1 (by rw [q2]; simp) q4 (fun ps z => by cases z) (fun c q z => by cases z)
          fun F => ⟨_, hv, a, putVs ks us k' v, rfl, q2, put_length q3, by rw [upd_same, pz], (put_rep rd q5).mono F⟩
        exact .inr ⟨a, _, rfl, DPut.k q4 hlen, po _ R2 F2⟩
      · rw [if_neg hl] at e3; cases e3
  · cases e3
theorem dg_set (n : Nat) (hu : X.A.units + 1 < cLine) (hi : PE X i (tE Z Γ fa)) (hN : X.N[n]? = some x := by rfl) (hv : Vis X.env.scope x := by first | exact Or.inl rfl | exact Or.inr (Or.inl rfl) | exact Or.inr (Or.inr rfl)) (hd : (x == ("__debug__" : Str)) = false := by decide)
    (hcd : (x == ("__classdict__" : Str)) = false := by decide) (ha : ∀ v, assign (.Subscript (.Name x p1) i pos) X.env v = (do
      let ov ← holding [v] (eval (.Name x p1) X.env)
      let iv ← holding [v, ov] (eval i X.env)
      standAt pos
      holding [v, ov, iv] (setItem ov iv v)
      release [v, ov, iv] []) := by intro _; rfl) : PG X (.Subscript (.Name x p1) i pos) (tG Z Γ [] (gSet n fa)) := by
  refine pg_imp (pg_sub (pv n hN hv hd hcd) hi (set_two hu) ha) fun v σ H Q h => ?_
  obtain ⟨s, Lv, d, R0, r, po⟩ := h
  unfold gSet at po
  by_cases hw : isOwn s n = true
  · rw [if_pos hw] at po
    obtain ⟨o0, e0⟩ := isOwn_ok hw
    obtain ⟨v0, hv0, _⟩ := R0.ow e0
    refine ⟨v0, hv0, s, Lv, R0, ?_⟩
    cases e1 : fa s with
    | st => rw [e1] at po; exact po.elim
    | er c ns ds s1 => rw [e1] at po; exact po.elim
    | ok w s1 =>
      rw [e1] at po
      simp only [PD.R.bind_ok] at po
      intro kv H1 Lv1 R1 F1 r1
      cases e2 : fzW w with
      | none => rw [e2] at po; exact po.elim
      | some k =>
        cases e3 : s1[n]? with
        | none => rw [e2, e3] at po; exact po.elim
        | some sl =>
          cases sl with
          | no => rw [e2, e3] at po; exact po.elim
          | fz d => rw [e2, e3] at po; exact po.elim
          | ow o =>
            rw [e2, e3] at po
            simp only at po
            cases e4 : o.put k d with
            | none => rw [e4] at po; exact po.elim
            | some o' =>
              rw [e4] at po
              exact put_D R1 e3 hv0 (fz_ok r1 e2) (r.mono F1) e4 fun H' R2 F2 => po σ H' Lv1 R2 (F1.trans F2) ⟨rfl, fun _ _ => rfl⟩
  · rw [if_neg hw] at po; exact po.elim
end

def gIx2 : List D → Option D
  | [.dic ks vs, k] => (keyD k).bind fun k => dgetK ks vs k
  | ds => gIx ds
def gIn2 : List D → Option D
  | [k, .dic ks _] => (keyD k).map fun k => .bl (hasK ks k)
  | ds => gIn ds
section
variable {X : Cx} {Z : Zt}
theorem od_ix2 (hK : X.K = Z.K) (hu : X.A.units + 1 < cLine) : IxR X (rD2 Z gIx2) := by
  intro a0 b0 pins s σ H x y v u Q I rx ry h
  obtain ⟨Xs, ds, d, hx, hv, hg, q⟩ := h
  unfold gIx2 at hg
  split at hg
  · rename_i ks vs k
    obtain ⟨d1, d2, e, h1, h2⟩ := vw2 hv
    cases e
    cases e1 : keyD k with
    | none => rw [e1] at hg; cases hg
    | some k' =>
      rw [e1] at hg
      simp only [Option.bind_some] at hg
      have ek := keyD_rep h2 e1
      subst ek
      obtain ⟨a, us, rfl, hl, ha, r⟩ := vw_dic h1
      obtain ⟨w, e2, r2⟩ := dgetK_rep (ks := ks) r hg
      have g : DGet H a (kV k') (some w) := by rw [← e2]; exact DGet.k ha
      intro hs
      cases rx
      unfold subscriptTail
      have hT := dict_typeIs I g
      refine wpAny_bind ?_
      rw [getitemInPython_of_ne hT.not_modules]
      refine wpAny_bind (wpAny_specialOf hT PySem.F.slot_dict_getitem.lookup ?_)
      have fin : wpAny (model X.prog X.w) X.A (subscripted b0 false (.ref a) u) (fun r s₃ => wpAny (model X.prog X.w) X.A (letTemporaryGo a0 (.ref a) r >>= fun _ => pure r) (EP X pins σ Q) X.xe s₃) X.xe s := by
        rw [hs]
        exact wpAny_operating (d_getItem hu I g ry fun w' s3 I3 rw' => wpAny_bind (wpAny_letTemporaryGo (wpAny_pure ⟨w, H, I3, rw', q _ H (Same.refl H) r2⟩)))
      first
        | exact wpAny_pure (wpAny_bind fin)
        | exact wpAny_bind (wpAny_pure (wpAny_bind fin))
        | exact wpAny_bind fin
  · exact od_ix hK a0 b0 pins s σ H x y v u Q I rx ry ⟨Xs, ds, d, hx, hv, hg, q⟩
theorem od_in2 (hK : X.K = Z.K) (hu : X.A.units + 65 < cLine) : OpR X (compareOp .In) (rD2 Z gIn2) := by
  intro pins s σ H x y v u Q I rx ry h
  obtain ⟨Xs, ds, d, hx, hv, hg, q⟩ := h
  unfold gIn2 at hg
  split at hg
  · rename_i k ks vs
    obtain ⟨d1, d2, e, h1, h2⟩ := vw2 hv
    cases e
    cases e1 : keyD k with
    | none => rw [e1] at hg; cases hg
    | some k' =>
      rw [e1] at hg
      cases hg
      have ek := keyD_rep h1 e1
      subst ek
      obtain ⟨a, us, rfl, hl, ha, r⟩ := vw_dic h2
      cases ry
      exact d_in (by omega) I (DGet.k ha) rx fun s' I' => ⟨.bl (valV (ks.zip us) k').isSome, H, I', rfl, q _ H (Same.refl H) (by rw [hasK_val hl]; exact rep_bl)⟩
  · exact od_in hK hu pins s σ H x y v u Q I rx ry ⟨Xs, ds, d, hx, hv, hg, q⟩
end
end PD

set_option linter.all false
set_option maxRecDepth 100000
set_option maxHeartbeats 2000000
namespace PD
open PySem PySem.Spec PyProof.Rows L2 LamX NdefX

section
variable {X : Cx} {pins : List (Addr × Obj)} {σ : L2.St} {H : Hp} {s : Shared}
end

section
variable {X : Cx} {f : Addr} {F : NF} {b : Expr} {Np ps fr : List Str} {ws : List (Option V)} {k i : Nat} {tb : TE} {a : Str} {e1 : Expr} {es : List Expr} {t : TA} {p1 p2 : Pos}
end
end PD

set_option linter.all false
set_option maxRecDepth 100000
set_option maxHeartbeats 2000000
namespace PD
open PySem PySem.Spec PyProof.Rows L2 LamX NdefX

section
variable {Z : Zt} {Γ : Gm} {s : S} {Lv : Nat → List Addr} {σ : L2.St} {H : Hp} {j : Nat} {f c : Addr} {F : NF} {b : Expr}
end
structure LamT (Z : Zt) (X : Cx) (params : Arguments) (scope : Scope) (c P : Addr) : Prop where
  tb : TabB X.base X.mg c P
  code : X.env.code = .ref c
  mem : (P, X.env.qual ++ "<lambda>") ∈ Z.T
  uni : ∀ p ∈ Z.T, p.1 = P → p.2 = X.env.qual ++ "<lambda>"
  dflt : defaultsOf params X.env = ([], [])
  fr : ∀ y ∈ scope.names, y.2 = .free → X.env.scope.names.lookup y.1 = some .cell ∨ X.env.scope.names.lookup y.1 = some .free
section
variable {X : Cx} {Z : Zt} {Γ : Gm} {x : Str} {params : Arguments} {body : Expr} {scope : Scope} {rest : List Stmt} {g : S → SR} {c P : Addr} {p1 lpos pos : Pos}
end
end PD

set_option linter.all false
set_option maxRecDepth 100000
set_option maxHeartbeats 2000000
namespace PD
open PySem PySem.Spec PyProof.Rows L2 LamX NdefX

section
variable {Z : Zt} {Γ : Gm}
theorem Rl.kpOf {L : List Addr} {s' : S} {σ' : L2.St} {H' : Hp} {Lv' : Nat → List Addr} (R' : Rl Z (Γ.plus L) s' Lv' σ' H') (hB : Γ.B = []) : Kp Z Γ.H0 H' :=
  ⟨fun a o h t => R'.keep a o h (fun z => by have z : a ∈ Γ.B := z; rw [hB] at z; cases z) t, R'.ktbl, fun _ => R'.tb⟩
end

section
variable {X : Cx} {Z : Zt} {Y : Addr → Prop} {f : Addr} {F : NF} {b : Expr} {Np ps fr : List Str} {k n : Nat} {a : Str} {cs : List D} {vcs : List V} {fb : S → R W}
end
end PD

set_option linter.all false
set_option maxRecDepth 100000
set_option maxHeartbeats 2000000
namespace PD
open PySem PySem.Spec PyProof.Rows L2 LamX NdefX

theorem ps_goP {Z : Zt} {Γ : Gm} {Y : Addr → Prop} {H : Hp} {Q : VK} {E : XK} {N : Nat} {body : S → SR} {ds : List D} (h0 : Γ.X0 = Y) (h1 : Γ.H0 = H) (hB : Γ.B = []) (hE : ∀ cls d σ H', E cls d H' → Γ.E cls d σ H') (po : goP Z Y H Q E (runP N body ds)) :
    Ps Z Γ (body (ds.map Sl.fz ++ List.replicate (N - ds.length) Sl.no)) (fun _ => []) H { nx := fun _ H' => Q .non H', rt := Q } := by
  unfold runP at po
  have kp : ∀ {s' : S} {L : List Addr} {σ' : L2.St} {H' : Hp} {Lv' : Nat → List Addr}, Rl Z (Γ.plus L) s' Lv' σ' H' → Kp Z H H' := fun R' => by rw [← h1]; exact R'.kpOf hB
  generalize body (ds.map Sl.fz ++ List.replicate (N - ds.length) Sl.no) = b at po
  cases b with
  | nx s' => exact fun σ' H' Lv' R' F' => po .non H' [] (kp (by rw [plus_nil]; exact R')) List.nodup_nil (fun b hb => by cases hb) ⟨rfl, rep_non⟩
  | rt q s' =>
    intro v σ' H' Lv' L R' F' nd nw rr
    refine po v H' L (kp R') nd (fun b hb => ⟨?_, R'.x0 b (.inr hb)⟩) (rr.mono (Fw.refl.less fun a h => ?_) fun _ _ => rfl)
    · rw [← h1]; exact (nw b hb).2
    · rw [← h0] at h; exact .inl h
  | er c ns es s' =>
    intro cls d σ' H' Lv' R' F' x
    refine hE _ _ _ _ (po cls d H' (kp (L := []) (by rw [plus_nil]; exact R')) ?_)
    obtain ⟨C, e1, e2, e3⟩ := x
    exact ⟨C, e1, e2, e3.imp id fun ⟨dd, vs, a, b, c, d⟩ => ⟨dd, vs, a, b, c, d.mono (Fw.refl.less fun a h => by rw [← h0] at h; exact .inl h)⟩⟩
  | bk s' => exact po.elim
  | ct s' => exact po.elim
  | st => exact po.elim
theorem WRepL.split {Z : Zt} {X : Addr → Prop} {σ : L2.St} {H : Hp} : ∀ {n : Nat} {ws : List W} {vs : List V}, WRepL Z X σ H ws vs → WRepL Z X σ H (ws.take n) (vs.take n) ∧ WRepL Z X σ H (ws.drop n) (vs.drop n)
  | 0, ws, vs, h => by simp only [List.take_zero, List.drop_zero]; exact ⟨rfl, h⟩
  | n + 1, [], vs, h => by
    have h : vs = [] := h
    subst h
    exact ⟨rfl, rfl⟩
  | n + 1, w :: ws, vs, h => by
    obtain ⟨v, vr, rfl, h1, h2⟩ := h
    obtain ⟨q1, q2⟩ := WRepL.split (n := n) h2
    exact ⟨⟨v, _, rfl, h1, q1⟩, q2⟩
section
variable {X : Cx} {Z : Zt} {Γ : Gm} {pos p : Pos} {x : Str}
variable {gx jn : Str} {st : Stmt} {g f : Addr} {fd : FuncData} {Ng psg Np psl fr : List Str} {Fl : NF} {b e : Expr} {es : List Expr} {js : List Nat} {k n j : Nat} {fb : S → R W} {bf : (List D → FR) → S → SR} {fs : S → R (List W)}
end
end PD

set_option linter.all false
set_option maxRecDepth 100000
set_option maxHeartbeats 1000000
namespace PD
open PySem PySem.Spec PyProof.Rows L2

section
variable {Z : Zt} {Y : Addr → Prop} {H : Hp}
end
section
open PySem.W
variable {prog : Program} {w : World} {A : Around} {E : Value → Shared → Prop} {s : Shared} {β : Type} {vs : List Value} {bs : List β} {enc : β → PyData} {R : Value → β → Prop}
end
section
variable {X : Cx} {Z : Zt}
end
end PD

set_option linter.all false
set_option maxRecDepth 100000
set_option maxHeartbeats 1000000
namespace PD
open PySem PySem.Spec PyProof.Rows L2

section
variable {X : Cx} {Z : Zt} {Γ : Gm} {e : Expr} {fa : S → R W} {pos p p1 p2 tp : Pos} {kk : Nat}
end

section
variable {X : Cx} {Z : Zt} {Γ : Gm} {e : Expr} {fa fb : S → R W} {pos p p1 p2 p3 : Pos} {kk : Nat}
end
section
variable {X : Cx} {Z : Zt} {Γ : Gm} {a : Expr} {fa : S → R W} {pos p q1 q2 : Pos}
end
end PD

set_option linter.all false
set_option maxRecDepth 100000
set_option maxHeartbeats 1000000
namespace PD
open PySem PySem.Spec PyProof.Rows L2 LamX NdefX

theorem room65 {k : Nat} {A : Around} (r : Room k A) : A.units + 65 < cLine := by have := r.un; omega
theorem room80 {k : Nat} {A : Around} (r : Room k A) : A.units + 80 < cLine := by have := r.un; omega
theorem room1 {k : Nat} {A : Around} (r : Room k A) : A.units + 1 < cLine := by have := r.un; omega
section
variable {X : Cx} {Γ : Gm} {j : Nat} {f c : Addr} {F : NF} {b : Expr}
end
section
variable {P : Program} {w : World} {Z : Zt} {base : Heap}
end

theorem bl_in2 : BlOnly gIn2 := fun ds d h => by
  unfold gIn2 at h
  split at h
  · rename_i k ks vs
    cases e : keyD k with
    | none => rw [e] at h; cases h
    | some k' => rw [e] at h; cases h; exact ⟨_, rfl⟩
  · exact bl_in _ _ h
def KRepL (Z : Zt) (X : Addr → Prop) (H : Hp) : List (Key × D) → List (V × V) → Prop
  | [], ps => ps = []
  | kd :: r, ps => ∃ v pr, ps = (kV kd.1, v) :: pr ∧ Rep Z X H kd.2 v ∧ KRepL Z X H r pr
def tK (Z : Zt) (Γ : Gm) (g : S → R (List (Key × D))) : L2.St → Hp → (List (V × V) → Hp → Prop) → Prop := fun σ H Q => ∃ s Lv, Rl Z Γ s Lv σ H ∧ Po Z Γ (fun X _ H => KRepL Z X H) (g s) Lv σ H Q
structure DKs (X : Cx) (pos : Pos) (keys : List (Option Expr)) (values : List Expr) (Z : Zt) (Γ : Gm) (g : S → R (List (Key × D))) : Prop where
  ex : ∃ trs, PPs X pos keys values trs ∧ ∀ L H0 σ H Q, tK Z (Γ.hold L H0) g σ H Q → tPairs trs σ H Q
section
variable {X : Cx} {Z : Zt} {Γ : Gm} {k v : Expr} {keys : List (Option Expr)} {values : List Expr} {fk fv : S → R W} {g : S → R (List (Key × D))} {pos : Pos}
theorem Rl.drop {s : S} {Lv : Nat → List Addr} {σ : L2.St} {H H1 : Hp} {p : Addr} {o o' : HO} (R : Rl Z (Γ.hold [p] H1) s Lv σ H) (h0 : Γ.H0 p = none) (hX : ¬ Γ.X0 p) (hB : ∀ a ∈ Γ.B, Γ.X0 a) (hP : ∀ a o, Γ.pin a o → Γ.X0 a ∨ Ext o) (np : ∀ o, ¬ Γ.pin p o) (ho : H p = some o) (ht : ∀ ps, o ≠ .tbl ps) (hc : ∀ c q, o ≠ LamX.CodeO c q) :
    Rl Z (Γ.plus [p]) s Lv σ (upd H p o') ∧ Fw Z ((Γ.hold [p] H1).X Lv) H ((Γ.plus [p]).X Lv) (upd H p o') := by
  have xp : (Γ.hold [p] H1).X0 p := .inr (by simp)
  have nL : ∀ i, p ∉ Lv i := fun i hi => by
    rcases R.lvb i p hi with z | z
    · exact hX (hB p z.2)
    · exact z.2 xp
  have F : Fw Z ((Γ.hold [p] H1).X Lv) H ((Γ.plus [p]).X Lv) (upd H p o') := by
    refine ⟨fun a u h n _ => ?_, fun a ps h => ?_, fun a h => .inl h, fun h q hq => tabs_upd ho ht hc (h q hq)⟩
    · rw [upd_ne fun z => n (by rw [z]; exact .inl xp)]; exact h
    · rw [upd_ne fun z => by rw [z, ho] at h; exact ht ps (Option.some.inj h)]
      exact ⟨ps, h⟩
  have ne : ∀ a u, H a = some u → a ≠ p → upd H p o' a = some u := fun a u h n => by rw [upd_ne n]; exact h
  have nn : ∀ a, H a ≠ none → upd H p o' a ≠ none := fun a h => by
    by_cases z : a = p
    · rw [z, upd_same]; simp
    · rw [upd_ne z]; exact h
  refine ⟨⟨R.len, fun i x hx => (R.sl i x hx).mono F fun a ha => upd_ne fun z => nL i (by rw [← z]; exact ha), R.out, R.nd, R.dj, R.lvb, fun a u h n t => ne a u (R.keep a u h n t) fun z => ?_, fun a ps h => ?_, fun a h => nn a (R.st0 a h), fun a h => nn a (R.x0 a h), fun a h => .inl (hB a h), F.tabs R.tb, R.bor, fun a u h => ?_⟩, F⟩
  · have h : Γ.H0 a = some u := h
    rw [z, h0] at h; cases h
  · obtain ⟨qs, e⟩ := R.ktbl a ps h
    exact F.ktbl a qs e
  · obtain ⟨p1, p2, p3, p4⟩ := R.pn a u (.inl h)
    exact ⟨(hP a u h).imp .inl id, p2, p3, ne a u p4 fun z => np u (by rw [← z]; exact h)⟩
end
end PD

set_option linter.all false
set_option maxRecDepth 100000
set_option maxHeartbeats 2000000
namespace PD
open PySem PySem.Spec PyProof.Rows L2

section
variable {X : Cx} {Z : Zt} {Γ : Gm} {t t1 : D → S → R Unit} {ks ks1 : List Nat} {fi fi1 : S → R (List D)} {c c1 : S → R Bool} {f : S → R W} {vs vs1 : List Nat}
end
section
variable {X : Cx} {Z : Zt} {Γ : Gm} {elt tg iter tg1 iter1 : Expr} {ifs ifs1 : List Expr} {scope : Scope} {own : List (Str × Nat)} {vs1 : List Nat} {t t1 : D → S → R Unit} {ks ks1 : List Nat} {fi fi1 : S → R (List D)} {c c1 : S → R Bool} {f : S → R W} {pos spos py : Pos} {y : Str}
end
end PD

set_option linter.all false
set_option maxRecDepth 100000
set_option maxHeartbeats 1000000
namespace PD
open PySem PySem.Spec PyProof.Rows L2

section
variable {prog : Program} {w : World} {A : Around} {R : Result → Shared → Prop} {it : Addr} {fp wr : List Addr} {n : Nat} {P : Nat → Value → Prop} {St : Nat → Heap → Prop} {kws : List (Str × Value)}
end
section
variable {prog : Program} {w : World} {A : Around} {E : Value → Shared → Prop} {s : Shared}
end
end PD

set_option linter.all false
set_option maxRecDepth 100000
set_option maxHeartbeats 1000000
namespace PD
open PySem PySem.Spec PyProof.Rows L2

section
variable {X : Cx} {Z : Zt} {Γ : Gm}
variable {e e2 : Expr} {fa fb : S → R W} {pos p kp : Pos}
end
end PD

set_option linter.all false
set_option maxRecDepth 100000
set_option maxHeartbeats 1000000
namespace PD
open PySem PySem.Spec PyProof.Rows L2 LamX NdefX

section
variable {X : Cx} {Z : Zt} {Y : Addr → Prop} {H0 : Hp} {f : Addr} {fd : FuncData} {ps : List Str} {k j n m : Nat} {a : Str} {jm : List D → FR}
end
section
variable {X : Cx} {Z : Zt} {Γ : Gm} {pos p : Pos}
variable {gx jn jx : Str} {st : Stmt} {g f : Addr} {fd fdj : FuncData} {Ng psg psj : List Str} {e : Expr} {es : List Expr} {k n m : Nat} {bf : (List D → FR) → S → SR} {jm : List D → FR} {fs : S → R (List W)}
end
end PD

set_option linter.all false
set_option maxRecDepth 100000
set_option maxHeartbeats 1000000
namespace PD
open PySem PySem.Spec PyProof.Rows L2

section
variable {X : Cx} {Z : Zt} {Γ : Gm} {e o : Expr} {es : List Expr} {fa fo : S → R W} {fs : S → R (List W)} {pos apos p : Pos} {c f m x : Str} {C : Addr}
end
end PD

set_option linter.all false
set_option maxRecDepth 100000
set_option maxHeartbeats 1000000
namespace PD
open PySem PySem.Spec PyProof.Rows L2

section
variable {X : Cx} {Z : Zt} {Γ : Gm} {value : Expr} {fa : S → R W} {pos pos' p1 : Pos} {c f x : Str} {C : Addr}
end
end PD

set_option linter.all false
set_option maxRecDepth 100000
set_option maxHeartbeats 2000000
namespace PD
open PySem PySem.Spec PyProof.Rows L2

section
variable {Z : Zt} {Γ : Gm} {s : S} {Lv : Nat → List Addr} {σ : L2.St} {H : Hp} {p : Addr} {o o' : HO}
end
section
variable {X : Cx} {Z : Zt} {Γ : Gm} {t : D → S → R Unit} {ks : List Nat} {fi : S → R (List D)} {c : S → R Bool} {fk fv : S → R W} {vs : List Nat}
variable {kx vx tg iter : Expr} {ifs : List Expr} {scope : Scope} {own : List (Str × Nat)} {pos : Pos}
end
end PD

set_option linter.all false
set_option maxRecDepth 100000
set_option maxHeartbeats 1000000
namespace PD
open PySem PySem.Spec PyProof.Rows L2

section
variable {X : Cx} {Z : Zt} {Γ : Gm} {es : List Expr} {fs : S → R (List Rv)} {pos p : Pos} {x : Str} {names : List Expr} {is : List Nat}
end
end PD

set_option linter.all false
set_option maxRecDepth 100000
set_option maxHeartbeats 1000000
namespace PD
open PySem PySem.Spec PyProof.Rows L2

section
variable {X : Cx} {Z : Zt} {Γ : Gm} {o e f : Expr} {fd fk fx : S → R W} {apos cpos : Pos}
end
end PD

set_option linter.all false
set_option maxRecDepth 100000
set_option maxHeartbeats 1000000
namespace PD
open PySem PySem.Spec PyProof.Rows L2
section
variable {P : Program} {w : World} {Z : Zt} {base : Heap}
end
end PD

set_option linter.all false
set_option maxRecDepth 100000
set_option maxHeartbeats 1000000
namespace PD
open PySem PySem.Spec PyProof.Rows L2

section
variable {X : Cx} {Z : Zt} {Γ : Gm} {pos : Pos} {x : Str}
theorem Rl.leave {s : S} {Lv : Nat → List Addr} {σ : L2.St} {H : Hp} {j : Nat} {o : O} (R0 : Rl Z Γ s Lv σ H) (h : s[j]? = some (.ow o)) (hb : j ≠ 0 ∨ Γ.B = []) :
    ∃ v, σ[j]? = some (some v) ∧ Rl Z (Γ.plus (Lv j)) (s.set j .no) (setL Lv j []) σ H ∧ Fw Z (Γ.X Lv) H ((Γ.plus (Lv j)).X (setL Lv j [])) H ∧ (Lv j).Nodup ∧ (∀ b ∈ Lv j, ¬ Γ.X (setL Lv j []) b ∧ Γ.H0 b = none) ∧ OwnRep Z ((Γ.plus (Lv j)).X (setL Lv j [])) H o v (Lv j) := by
  obtain ⟨v, e, r⟩ := R0.ow h
  have hj : j < s.length := (List.getElem?_eq_some_iff.mp h).1
  have low : ∀ b ∈ Lv j, Γ.H0 b = none ∧ ¬ Γ.X0 b := fun b hb' => by
    rcases R0.lvb j b hb' with z | z
    · rcases hb with hb | hb
      · exact absurd z.1 hb
      · have := z.2; rw [hb] at this; cases this
    · exact z
  have sub : ∀ i b, b ∈ setL Lv j [] i → b ∈ Lv i ∧ i ≠ j := fun i b h => by
    by_cases hi : i = j
    · rw [hi, setL_same] at h; cases h
    · rw [setL_ne hi] at h; exact ⟨h, hi⟩
  have F : Fw Z (Γ.X Lv) H ((Γ.plus (Lv j)).X (setL Lv j [])) H := Fw.refl.less fun a h => by
    rcases h with (h | h) | ⟨i, h⟩
    · exact .inl h
    · exact .inr ⟨j, h⟩
    · exact .inr ⟨i, (sub i a h).1⟩
  refine ⟨v, e, ⟨by rw [List.length_set]; exact R0.len, fun i y hy => ?_, fun i hi => ?_, fun i => ?_, fun i k a h1 h2 => R0.dj i k a (sub i a h1).1 (sub k a h2).1, fun i a h => ?_, R0.keep, R0.ktbl, R0.st0, fun a h => ?_, fun a h => .inl (R0.bx a h), R0.tb, R0.bor, fun a u h => ?_⟩, F, R0.nd j, fun b hb' => ⟨fun q => ?_, (low b hb').1⟩, r.mono F fun _ _ => rfl⟩
  · by_cases hi : i = j
    · subst hi
      rw [List.getElem?_set_self hj] at hy
      cases hy
      rw [setL_same]; rfl
    · rw [List.getElem?_set_ne (Ne.symm hi)] at hy
      rw [setL_ne hi]
      exact (R0.sl i y hy).mono F fun _ _ => rfl
  · rw [List.length_set] at hi
    by_cases hij : i = j
    · rw [hij, setL_same]
    · rw [setL_ne hij]; exact R0.out i hi
  · by_cases hi : i = j
    · rw [hi, setL_same]; exact List.nodup_nil
    · rw [setL_ne hi]; exact R0.nd i
  · obtain ⟨h1, h2⟩ := sub i a h
    rcases R0.lvb i a h1 with z | z
    · exact .inl z
    · exact .inr ⟨z.1, fun q => q.elim z.2 fun q => h2 (R0.dj i j a h1 q)⟩
  · rcases h with h | h
    · exact R0.x0 a h
    · exact R0.there h
  · obtain ⟨p1, p2, p3, p4⟩ := R0.pn a u h
    exact ⟨p1.imp .inl id, p2, p3, p4⟩
  · rcases q with q | ⟨i, q⟩
    · exact (low b hb').2 q
    · obtain ⟨h1, h2⟩ := sub i b q
      exact h2 (R0.dj i j b h1 hb')
end
end PD

set_option linter.all false
set_option maxRecDepth 100000
set_option maxHeartbeats 1000000
namespace PD
open PySem PySem.Spec PyProof.Rows L2
section
variable {X : Cx} {k v : Expr} {tk tv : TE} {pos : Pos}
end
end PD

set_option linter.all false
set_option maxRecDepth 100000
set_option maxHeartbeats 1000000
namespace PD
open PySem PySem.Spec PyProof.Rows L2

section
variable {X : Cx} {Z : Zt} {Γ : Gm} {e k v : Expr} {fa fv : S → R W} {fk : S → R (List Key)} {pos p : Pos} {x : Str}
end
end PD

set_option linter.all false
set_option maxRecDepth 100000
set_option maxHeartbeats 1000000
namespace PD
open PySem PySem.Spec PyProof.Rows L2

def Gm.lk (Γ : Gm) (d : Addr) (u : HO) (i : Nat) : Gm := { Γ.plus [d] with E := fun _ _ _ _ => False, bor := fun j => if j = i then some (.ref d) else Γ.bor j, pin := fun a o => Γ.pin a o ∨ (a = d ∧ o = u) }
section
variable {X : Cx} {Z : Zt} {Γ : Gm} {s : S} {Lv : Nat → List Addr} {σ : L2.St} {H : Hp} {p : Addr} {o o' : HO}
theorem Rl.writeX (R : Rl Z Γ s Lv σ H) (xp : Γ.X0 p) (hB : Γ.B = []) (h0 : Γ.H0 p = none) (np : ∀ u, ¬ Γ.pin p u) (ho : H p = some o) (ht : ∀ ps, o ≠ .tbl ps) (hc : ∀ c q, o ≠ LamX.CodeO c q) :
    Rl Z Γ s Lv σ (upd H p o') ∧ Fw Z (Γ.X Lv) H (Γ.X Lv) (upd H p o') := by
  have nL : ∀ i, p ∉ Lv i := fun i hi => by
    rcases R.lvb i p hi with z | z
    · rw [hB] at z; cases z.2
    · exact z.2 xp
  have F : Fw Z (Γ.X Lv) H (Γ.X Lv) (upd H p o') := by
    refine ⟨fun a u h n _ => ?_, fun a ps h => ?_, fun a h => .inl h, fun h q hq => tabs_upd ho ht hc (h q hq)⟩
    · rw [upd_ne fun z => n (by rw [z]; exact .inl xp)]; exact h
    · rw [upd_ne fun z => by rw [z, ho] at h; exact ht ps (Option.some.inj h)]
      exact ⟨ps, h⟩
  have ne : ∀ a u, H a = some u → a ≠ p → upd H p o' a = some u := fun a u h n => by rw [upd_ne n]; exact h
  have nn : ∀ a, H a ≠ none → upd H p o' a ≠ none := fun a h => by
    by_cases z : a = p
    · rw [z, upd_same]; simp
    · rw [upd_ne z]; exact h
  refine ⟨⟨R.len, fun i x hx => (R.sl i x hx).mono F fun a ha => upd_ne fun z => nL i (by rw [← z]; exact ha), R.out, R.nd, R.dj, R.lvb, fun a u h n t => ne a u (R.keep a u h n t) fun z => ?_, fun a ps h => ?_, fun a h => nn a (R.st0 a h), fun a h => nn a (R.x0 a h), R.bx, F.tabs R.tb, R.bor, fun a u h => ?_⟩, F⟩
  · rw [z, h0] at h; cases h
  · obtain ⟨qs, e⟩ := R.ktbl a ps h
    exact F.ktbl a qs e
  · obtain ⟨p1, p2, p3, p4⟩ := R.pn a u h
    exact ⟨p1, p2, p3, ne a u p4 fun z => np u (by rw [← z]; exact h)⟩
theorem Gm.NT.lk {d : Addr} {u : HO} {i : Nat} (h : Γ.NT) (ht : ∀ xs, u ≠ .tup xs) : (Γ.lk d u i).NT := ⟨h.1, fun a ha => by
  rcases ha with ha | ha
  · obtain ⟨o, h1, h2⟩ := h.2 a ha
    exact ⟨o, h1.imp id .inl, h2⟩
  · exact ⟨u, .inr (.inr ⟨List.mem_singleton.mp ha, rfl⟩), ht⟩⟩
theorem Rl.lock (R : Rl Z Γ s Lv σ H) (hn : Γ.NT) {i : Nat} {ks : List (List Key)} {vs : List D} (e : s[i]? = some (.ow (.dit ks vs))) :
    ∃ d us, σ[i]? = some (some (.ref d)) ∧ H d = some (.dT (ks.zip us)) ∧ ks.length = us.length ∧ RepL Z (Γ.X Lv) H vs us ∧ Γ.H0 d = none ∧ ¬ Γ.X0 d ∧ ∀ od,
      Rl Z (Γ.lk d (.frz od (.dT (ks.zip us))) i) (s.set i .no) (setL Lv i []) σ (upd H d (.frz od (.dT (ks.zip us)))) ∧ Fw Z (Γ.X Lv) H ((Γ.lk d (.frz od (.dT (ks.zip us))) i).X (setL Lv i [])) (upd H d (.frz od (.dT (ks.zip us)))) := by
  obtain ⟨v, e1, a, us, rfl, e2, e3, e4, r⟩ := R.ow e
  obtain ⟨v', e1', R1, F1, nd, nw, r1⟩ := R.leave e (.inr hn.1)
  rw [e1] at e1'; cases e1'
  rw [e2] at R1 F1 nw
  have hd0 : Γ.H0 a = none := (nw a (by simp)).2
  have hdX : ¬ Γ.X0 a := fun q => (nw a (by simp)).1 (.inl q)
  refine ⟨a, us, e1, e4, e3, r, hd0, hdX, fun od => ?_⟩
  have npin : ∀ u, ¬ Γ.pin a u := fun u q => by
    rcases (R.pn a u q).1 with z | ⟨φ, rfl⟩
    · exact hdX z
    · have := (R.pn a _ q).2.2.2
      rw [e4] at this; cases this
  obtain ⟨R2, F2⟩ := R1.writeX (p := a) (o' := .frz od (.dT (ks.zip us))) (.inr (by simp)) hn.1 hd0 npin e4 (fun ps z => by cases z) (fun c q z => by cases z)
  refine ⟨⟨R2.len, R2.sl, R2.out, R2.nd, R2.dj, R2.lvb, R2.keep, R2.ktbl, R2.st0, R2.x0, R2.bx, R2.tb, fun j v h => ?_, fun b u h => ?_⟩, F1.trans F2⟩
  · by_cases hj : j = i
    · have h : (if j = i then some (V.ref a) else Γ.bor j) = some v := h
      rw [if_pos hj] at h
      cases h
      rw [hj]; exact e1
    · have h : (if j = i then some (V.ref a) else Γ.bor j) = some v := h
      rw [if_neg hj] at h
      exact R.bor j v h
  · rcases h with h | ⟨rfl, rfl⟩
    · exact R2.pn b u h
    · exact ⟨.inl (.inr (by simp)), .inl (by show b ∉ Γ.B; rw [hn.1]; simp), fun ps z => (by cases z), upd_same⟩
end
end PD

set_option linter.all false
set_option maxRecDepth 100000
set_option maxHeartbeats 1000000
namespace PD
open PySem PySem.Spec PyProof.Rows L2
theorem sp_law {Z : Zt} {g : List D → FR} {ns : List Int} {H : Hp} {a : Addr} (plain : g [.scr ns] = .ok (.d (.bl true))) (ht : ∀ p ∈ Z.T, H p.1 = some (.tbl #[])) (hS : SqL Z.K H a (ns.map V.int)) :
    spP Z 1 g [.ref a] H (fun v _ => v = .bl true) fun _ _ _ => False := by
  refine ⟨rfl, fun _ => False, [.scr ns], fun a h => h.elim, fun p hp => ⟨#[], ht p hp, by simp [TriplesOk], fun pos cv h => ?_⟩, ?_, ?_⟩
  · simp [codeAmong] at h
  · refine RepL.one ?_
    simp only [Rep]
    refine ⟨a, rfl, ?_⟩
    rcases hS with hS | hS
    · exact .inl ⟨fun h => h, hS⟩
    · exact .inr hS
  · rw [plain]
    intro v H' L kp nd nw r
    have r := r.2
    simp only [Rep] at r
    exact r
theorem cx_end {P : Program} {w : World} {H : Hp} {s : Shared} {e : Value} {s' : Shared} (h : L2.CX P w [] H s (fun _ _ _ => False) e s') : False := by
  obtain ⟨_, _, _, _, _, _, _, _, _, _, _, _, z⟩ := h
  exact z
end PD

set_option linter.all false
set_option maxRecDepth 100000
set_option maxHeartbeats 1000000
namespace PD
open PySem PySem.Spec PyProof.Rows L2

section
variable {Z : Zt} {Y : Addr → Prop} {H : Hp} {f : Str}
end
section
variable {X : Cx} {Z : Zt} {Γ : Gm} {value e : Expr} {es : List Expr} {fa : S → R W} {fs : S → R (List W)} {fr : S → R Rv} {pos pos' p1 p2 ap : Pos} {c f x y m : Str} {C : Addr}
end
end PD

set_option linter.all false
set_option maxRecDepth 100000
set_option maxHeartbeats 1000000
namespace PD
open PySem PySem.Spec PyProof.Rows L2
section
variable {X : Cx} {Z : Zt} {Γ : Gm} {elt tg iter : Expr} {ifs : List Expr} {scope : Scope} {own : List (Str × Nat)} {t : D → S → R Unit} {ks : List Nat} {fi : S → R (List D)} {c : S → R Bool} {f : S → R W} {pos : Pos}
end
section
variable {X : Cx} {Z : Zt} {Γ : Gm} {value e : Expr} {es : List Expr} {fa : S → R W} {fs : S → R (List W)} {fr : S → R Rv} {pos pos' p1 p2 apos : Pos} {c f x y m : Str} {C : Addr}
end
end PD

set_option linter.all false
set_option maxRecDepth 100000
set_option maxHeartbeats 1000000
namespace PD
open PySem PySem.Spec PyProof.Rows L2

section
variable {X : Cx} {Z : Zt} {Γ : Gm} {e : Expr} {es : List Expr} {fs : S → R (List W)} {fr : S → R Rv} {pos apos p1 : Pos} {c x m : Str} {C : Addr}
end
end PD

set_option linter.all false
set_option maxRecDepth 100000
set_option maxHeartbeats 1000000
namespace PD
open PySem PySem.Spec PyProof.Rows L2
section
variable {X : Cx} {Z : Zt} {Γ : Gm} {o : Expr} {to : TE} {fo : S → R W} {pos apos p1 : Pos} {c f x m : Str} {C : Addr}
end
end PD

set_option linter.all false
set_option maxRecDepth 100000
set_option maxHeartbeats 1000000
namespace PD
open PySem PySem.Spec PyProof.Rows L2
section
variable {X : Cx} {Z : Zt} {Γ : Gm} {a b e i : Expr} {fa fb fi fe : S → R W} {pos p1 tpos : Pos} {x : Str}
end
end PD

set_option linter.all false
set_option maxRecDepth 100000
set_option maxHeartbeats 1000000
namespace PD
open PySem PySem.Spec PyProof.Rows L2
end PD

set_option linter.all false
set_option maxRecDepth 100000
set_option maxHeartbeats 1000000
namespace PD
open PySem PySem.Spec PyProof.Rows L2
section
variable {X : Cx} {Z : Zt} {Γ : Gm} {pos : Pos} {c a b : Expr} {gc ga gb : S → R Bool}
end
end PD

set_option linter.all false
set_option maxRecDepth 100000
set_option maxHeartbeats 1000000
namespace PD
open PySem PySem.Spec PyProof.Rows L2
section
variable {X : Cx} {Z : Zt} {Γ : Gm} {a b e i : Expr} {fa fb fi fe : S → R W} {pos p1 tpos : Pos} {x : Str}
end
end PD

set_option linter.all false
set_option maxRecDepth 100000
set_option maxHeartbeats 1000000
namespace PD
open PySem PySem.Spec PyProof.Rows L2
def gIdx (ds : List D) (d : D) : Option D := (dok d).bind fun p => (dok (.lst ds)).bind fun q => match q with
  | .list ps => (ps.findIdx? fun z => PyData.eqv z p).map fun j => .int (j : Nat)
  | _ => none
def eIdx (fo fe : S → R W) : S → R W := fun s => (fo s).bind fun w s1 => match fzW w with
  | some (.lst ds) => (fe s1).bind fun u s2 => ofO s2 (((fzW u).bind fun d => gIdx ds d).map .d)
  | _ => .st
section
variable {X : Cx} {Z : Zt} {Γ : Gm} {o e : Expr} {fo fe : S → R W} {apos cpos : Pos}
theorem de_index (hK : X.K = Z.K) (hu : X.A.units + 65 < cLine) (ho : PE X o (tE Z Γ fo)) (he : PE X e (tE Z Γ fe))
    (hbase : attributeBase o "index" X.env (eval o X.env) = eval o X.env := by rfl)
    (hfew : ((backTo cpos (starEach [e] X.env)).all (fun x => !x.1) && (backToKw cpos (keywordEach [] X.env)).all (fun x => x.1.isSome)
      && decide (([e] : List Expr).length + ([] : List Keyword).length + (if ([] : List Keyword).isEmpty then 0 else 1) < 30)) = true := by rfl)
    (hline : (apos.endLine == cpos.line) = true := by rfl) (hs : starEach [e] X.env = (false, eval e X.env) :: starEach [] X.env := by rfl) :
    PE X (.Call (.Attribute o "index" apos) [e] [] cpos) (tE Z Γ (eIdx fo fe)) := by
  refine pe_imp (pe_bm PySem.F.plainAttrs_list PySem.F.slot_list_index PySem.F.type_list_index (mt_indexD hu) ho (pa_cons he pa_nil hs) hbase hfew hline hs rfl) fun σ H Q h => ?_
  obtain ⟨s, Lv, R0, po⟩ := h
  unfold eIdx at po
  refine ⟨s, Lv, R0, po.bind.mono fun v H1 ⟨w, s1, Lv1, _, R1, F1, r1, po1⟩ => ?_⟩
  split at po1
  · rename_i ds e1
    have r := fz_ok r1 e1
    have r' := r
    simp only [Rep] at r'
    obtain ⟨a, us, rfl, _, ha, _⟩ := r'
    refine ⟨.inl ⟨rfl, us, .inl (.inl ha)⟩, s1, Lv1, R1, po1.bind.mono fun y H2 ⟨u, s2, Lv2, _, R2, F2, r2, po2⟩ => ?_⟩
    cases e2 : fzW u with
    | none => rw [e2] at po2; exact po2.elim
    | some d =>
      rw [e2] at po2
      simp only [Option.bind_some] at po2
      have rd := fz_ok r2 e2
      have rl := r.mono F2
      unfold gIdx at po2
      cases e3 : dok d with
      | none => rw [e3] at po2; exact po2.elim
      | some p =>
        cases e4 : dok (.lst ds) with
        | none => rw [e3, e4] at po2; exact po2.elim
        | some q =>
          obtain ⟨t1, s1'⟩ := dok_ok e3
          obtain ⟨t2, s2'⟩ := dok_ok e4
          obtain ⟨ps, rfl, _⟩ := toP_lst t2
          rw [e3, e4] at po2
          simp only [Option.bind_some] at po2
          cases e5 : ps.findIdx? (fun z => PyData.eqv z p) with
          | none => rw [e5] at po2; exact po2.elim
          | some j =>
            rw [e5] at po2
            obtain ⟨hj, h1, h2⟩ := List.findIdx?_eq_some_iff_getElem.1 e5
            refine ⟨a, y, p, ps, j, ps[j], rfl, rfl, ?_, ?_, s2', s1', List.getElem?_eq_getElem hj, h1, fun m z' hm hz => ?_, ?_⟩
            · rw [hK]; exact rep_dp rl t2
            · rw [hK]; exact rep_dp rd t1
            · obtain ⟨hm', rfl⟩ := List.getElem?_eq_some_iff.1 hz
              simpa using h2 m hm
            · exact po2.ok R2 (show Rep Z (Γ.X Lv2) H2 (.int (j : Nat)) (.int (j : Nat)) from rep_int)
  · exact po1.elim
end
end PD

set_option linter.all false
set_option maxRecDepth 100000
set_option maxHeartbeats 2000000
namespace PD
open PySem PySem.Spec PyProof.Rows L2 LamX NdefX

structure ExCls (K : PySem.W.Frag) (C : Addr) : Prop where
  T : OexC K C
  cd : ∃ cd, PySem.W.clsIn K C = some cd
  me : PySem.W.mroIn K C (.ref C) = some true
  up : PySem.W.ks_superIn K C C "__init__" = some (some (.builtin "ValueError.__init__"))
  ve : PySem.W.subIn K (.ref C) (.type "ValueError") = some true
  np : PySem.W.nsIn K cStatics "thirdparty.any" = some none
structure InitF (P : Program) (K : PySem.W.Frag) (C f : Addr) (qual : Str) (st : Stmt) (fd : FuncData) : Prop where
  ex : ∃ (oc : Value) (od : Option Addr) (osl : Array (Option Value)) (kV doc pm : Value) (an : Option Addr) (ct : Value) (cc cda : Addr) (cl : Value) (cld : Option Addr) (csl : Array (Option Value)) (ccl : Value) (cdd : Option Addr) (vs : Array Value) (ccs : Array (Option Value)) (file : Str) (tf : Tok),
    fd = PySem.W.ksFn "__init__" qual (defArgs st) (defBody st) (defScope st) .none kV doc pm an (.ref cda) ct cc ∧ K.lookup f = some ⟨oc, od, .func fd, osl⟩ ∧ PySem.W.codeIn K (.ref cda) qual = true ∧
    K.lookup cc = some ⟨cl, cld, .cell (some (.ref C)), csl⟩ ∧ K.lookup cda = some ⟨ccl, cdd, .fields vs, ccs⟩ ∧ vs[2]? = some (.str file tf) ∧ ((P.main.file : Str) == file) = true
  top : (P.main.scope.names.lookup ("super" : Str)).isSome = false

theorem cells_one {cc : Addr} {h : Heap} {H : Hp} {v : Value} (hn : H cc = none) (hc : h.IsCell cc (some v)) : CellsAt [("__class__", cc)] ["__class__"] [none] h H where
  len := rfl
  all := fun y c e => by
    have m := PySem.mem_of_lookup e
    have q : c = cc := by
      rcases List.mem_cons.mp m with z | z
      · exact (Prod.mk.inj z).2
      · cases z
    subst q
    exact ⟨hn, _, hc⟩
  inj := fun x y c a b => by
    have q : ∀ z, ([("__class__", cc)] : List (Str × Addr)).lookup z = some c → z = "__class__" := fun z e => by
      rcases List.mem_cons.mp (PySem.mem_of_lookup e) with w | w
      · exact (Prod.mk.inj w).1
      · cases w
    rw [q x a, q y b]
  has := fun i y e => by
    cases i with
    | zero =>
      cases e
      exact ⟨cc, by simp [List.lookup], fun v h => by cases h⟩
    | succ i => cases e

theorem mw_call {prog : Program} {w : World} {A : Around} {E : Value → Shared → Prop} {h : Heap} {g : Array GenState} {d : Drawn} {t : Nat} {os : OsState} {u C x t0 : Addr} {v : Value} {Q : Value → Shared → Prop}
    {nm q : Str} {N : Addr} {bs bm : List Value} {hdct : Bool} {sn : List Str} {sub : List Value} {ab : Bool} {col : Option Bool} {dd : Option Addr} {k0 k1 k2 k3 k5 : Option Value}
    (hu : h.get? u = some (PySem.W.kxs_mw "ValueError.__init__" x)) (hC : h.get? C = some (excClassObj nm q C N bs bm hdct sn sub ab col dd k0 k1 k2 k3 k5 "ValueError.__new__")) (he : h.get? x = some (PySem.W.excObj C t0 none .none))
    (fin : ∀ h' t1, (∀ b o, b ≠ x → h.get? b = some o → h'.get? b = some o) → h'.get? x = some (PySem.W.excObj C t1 none .none) → Q .none ⟨h', g, d, t, os⟩) :
    wpAny (model prog w) A (call (.ref u) [v]) Q E ⟨h, g, d, t, os⟩ := by
  refine wpAny_call (codeAny_of_tree ?_)
  show wpAny _ A.in1 (callAny (.ref u) ⟨[v], []⟩) _ _ _
  simp only [callAny]
  refine wpAny_bind (wpAny_load hu ?_)
  have c1 : (Value.type "method-wrapper" == Value.type "method" || Value.type "method-wrapper" == Value.type "builtin_function_or_method" || Value.type "method-wrapper" == Value.type "method-wrapper") = true := by decide
  simp only [PySem.W.kxs_mw, c1, if_true]
  refine PySem.W.KFB.if_so (by decide) ?_
  refine wpAny_bind (PySem.W.check_bound_init PySem.F.excBase_ValueError.toExcCallFacts hC he rfl ?_)
  refine wpAny_bind (wpAny_pure (wpAny_pure ?_))
  refine ⟨plainId_quiet PySem.F.excBase_ValueError.init.plain _, codeAny_builtin PySem.F.excBase_ValueError.initEntry ?_⟩
  exact PySem.W.exc_init_tree (cls := .ref C) (t0 := t0) (dv := none) (c2 := .none) (c3 := .none) (b4 := .bool false) he (by rw [sizeLine_eq]; show 1 ≤ _; omega) fun h' k e _ => fin h' _ k e
section
variable {P : Program} {w : World} {K : PySem.W.Frag} {mg : Str → Option Value} {base : Heap} {k : Nat} {C f x : Addr} {qual z : Str} {st : Stmt} {fd : FuncData} {N ps : List Str} {rest : List Stmt} {j : Nat} {p0 p1 p2 p3 p4 p5 : Pos}
theorem init_run (Fi : InitF P K C f qual st fd) (Xc : ExCls K C) (ms : mg "super" = none) (S : NScope N ps ["__class__"] (defScope st)) (hp0 : ps[0]? = some ("self" : Str))
    (hpa : ((defArgs st).posonlyargs ++ (defArgs st).args).head?.map (·.arg) = some ("self" : Str))
    (hbody : defBody st = .Expr (.Call (.Attribute (.Call (.Name "super" p0) [] [] p1) "__init__" p2) [.Constant (.str z) j p3] [] p4) p5 :: rest)
    (hev : ∀ (L cc : Addr) (cd : Value), ∃ pl : Sem Bool, eval (.Call (.Attribute (.Call (.Name "super" p0) [] [] p1) "__init__" p2) [.Constant (.str z) j p3] [] p4) (PySem.W.ksEnv qual (defScope st) L f cd cc) = (do
      let ov ← attributeBase (.Call (.Name "super" p0) [] [] p1) "__init__" (PySem.W.ksEnv qual (defScope st) L f cd cc) (eval (.Call (.Name "super" p0) [] [] p1) (PySem.W.ksEnv qual (defScope st) L f cd cc))
      standAt p2.atName
      let (g, first) ← holding [ov] (getMethod ov "__init__" pl)
      callWith p4 g first (backTo p4 (starEach [.Constant (.str z) j p3] (PySem.W.ksEnv qual (defScope st) L f cd cc))) []) ∧
      swapsWith (.Call (.Attribute (.Call (.Name "super" p0) [] [] p1) "__init__" p2) [.Constant (.str z) j p3] [] p4) none p5.line (PySem.W.ksEnv qual (defScope st) L f cd cc) = pure false ∧ interactive (PySem.W.ksEnv qual (defScope st) L f cd cc) = false)
    (hsc : (defScope st).names.lookup ("super" : Str) = some .globalImplicit)
    {A : Around} {outer : List Env} {s : Shared} {H : Hp} {args : Args} {us : List Value} {vs : List V} {Q : VK} {E : XK} (hr : Room (k + 1) A) (e0 : Env0 P w K mg base A outer s H) (hb : BindsTo s fd args (ps.zip us)) (r : Vals vs us) (hl : vs.length = ps.length)
    (hx : vs[0]? = some (.ref x)) (ex : H x = some (exo x C none))
    (go : ∀ F : NF, F.name = "__init__" → F.qual = qual → F.scope = defScope st → Room k (A.deeper (envF F f s.heap.objs.size)) → ∃ t, PSs (ncx (L2.CX P w) P w K mg base N F f A outer s H E) rest t ∧ t { nx := fun _ H' => Q .non H', rt := Q } (startF N vs [none]) H) :
    codeAny (model P w) A (.call (.ref f) args) (CR (L2.CX P w) outer P w H s Q E) s := by
  obtain ⟨oc, od, osl, kV, doc, pm, an, ct, cc, cda, cl, cld, csl, ccl, cdd, cvs, ccs, file, tf, rfl, lk, hcd, lcc, lcda, hfv, hff⟩ := Fi.ex
  have KX : K.In s.heap := e0.mod.kin.keeps fun b o e => (e0.bs b o e).1
  have lim : s.heap.NoLimit := e0.mod.nolimit.keeps fun b o e => (e0.bs b o e).1
  have ndP : ps.Nodup := by
    have q := S.nd.sublist (List.take_sublist (ps.length + [("__class__" : Str)].length) N)
    rw [S.pre] at q
    exact (List.nodup_append.mp q).1
  refine PySem.ks_codeAny_call_defAt hr.depth (KX _ _ lk) rfl lim (PySem.W.codeRec_of KX hcd) rfl hb S.nocell (fun y hy => S.par y.1 (List.of_mem_zip hy).1) (fun h₁ hns kept => ?_) S.co S.gen S.kind
  let F : NF := ⟨"__init__", qual, defArgs st, defBody st, defScope st, [("__class__", cc)], cda⟩
  have hcc : H cc = none := (e0.bs cc _ (e0.mod.kin _ _ lcc)).2
  have Cc : CellsAt F.cl ["__class__"] [none] s.heap H := cells_one (v := .ref C) hcc ⟨_, KX _ _ lcc, rfl⟩
  have I : Inv (ncx (L2.CX P w) P w K mg base N F f A outer s H E) [] (startF N vs [none]) H { s with heap := h₁, toks := s.toks + (ps.zip us).length } := inv_startN S hr.hd e0 hl r Cc hns kept
  have hrr := hr.deeper (envF F f s.heap.objs.size)
  obtain ⟨pl, he, hsw, hin⟩ := hev s.heap.objs.size cc (.ref cda)
  have ebd : execs (defBody st) (PySem.W.ksEnv qual (defScope st) s.heap.objs.size f (.ref cda) cc) = execs (.Expr (.Call (.Attribute (.Call (.Name "super" p0) [] [] p1) "__init__" p2) [.Constant (.str z) j p3] [] p4) p5 :: rest) (PySem.W.ksEnv qual (defScope st) s.heap.objs.size f (.ref cda) cc) := by rw [hbody]
  show PySem.wpAt _ _ _ (execs (defBody st) (PySem.W.ksEnv qual (defScope st) s.heap.objs.size f (.ref cda) cc)) _ _ _
  rw [ebd]
  refine PySem.ks_wpAt_execs_cons (PySem.ks_wpAt_Expr_any (PySem.ks_wpAt_MethodCall (pl := pl) ?_ he) hin hsw)
  have KI := I.kIn
  have hsn : (ps.zip us).reverse.lookup ("self" : Str) = some (.ref x) := by
    obtain ⟨u, hu, ru⟩ := r.get hx
    have e : u = Value.ref x := ru
    subst e
    exact zip_look ndP hp0 hu
  have hself : (defScope st).names.lookup ("self" : Str) = some .local := S.par _ (List.mem_of_getElem? hp0)
  have hcls : (defScope st).names.lookup ("__class__" : Str) = some .free := S.frk _ (by simp)
  have hx1 := I.hok x _ ex
  obtain ⟨t1, ox⟩ := exo_at I.hok ex
  obtain ⟨cdC, hcdC⟩ := Xc.cd
  obtain ⟨ar, har, harg⟩ : ∃ ar, ((defArgs st).posonlyargs ++ (defArgs st).args).head? = some ar ∧ ar.arg = ("self" : Str) := by
    cases e : ((defArgs st).posonlyargs ++ (defArgs st).args).head? with
    | none => rw [e] at hpa; cases hpa
    | some ar => rw [e] at hpa; exact ⟨ar, rfl, Option.some.inj hpa⟩
  refine PySem.ks_wpAt_super_base (f := f) (cc := cda) (ar := ar) hsc hcls (by decide) rfl (KI _ _ lk) rfl har rfl (KI _ _ lcda) rfl hfv hff Fi.top ?_
  obtain ⟨mb, b1, b2⟩ := I.mod.blt
  refine PySem.W.ks_loadName_global S.kind hsc (Calls.loadGlobal_builtin (I.mod.glob.keeps I.bk) ms (b1.keeps I.bk) ((b2 ("super" : Str) (by decide)).trans PyProof.Rows.Boot.«super») ⟨rfl, ?_⟩)
  refine wpAny_loadName_free S.kind hcls rfl ⟨_, KI _ _ lcc, rfl⟩ ?_
  rw [harg]
  refine wpAny_loadName_local S.kind hself hns hsn ?_
  obtain ⟨oD, hD1, hD2⟩ : ∃ oD, h₁.get? C = some oD ∧ oD.data = .cls cdC := by
    unfold PySem.W.clsIn at hcdC
    split at hcdC
    · rename_i c d cd' sl ho
      cases hcdC
      exact ⟨_, KI _ _ ho, rfl⟩
    · cases hcdC
  refine PySem.ks_wpAny_isType_cls hD1 hD2 ⟨rfl, ?_⟩
  have IA : PySem.W.InstAt h₁ x ({ cls := .ref C, dict := none, data := .fields #[.ref t1, .none, .none, .none, .bool false, .none] } : Obj) C none := ⟨ox, rfl, rfl, trivial⟩
  refine PySem.ks_wpAny_call_super hD1 hD2 ox rfl (fun c e => by cases e) (PySem.W.looks_mroIn KI Xc.me) (fun h2 hso k2 => ?_)
  have hxC : x ≠ C := PySem.W.ks_ne KI IA hcdC
  have K2 : K.In h2 := KI.keeps k2
  have I2 : Inv (ncx (L2.CX P w) P w K mg base N F f A outer s H E) [] (startF N vs [none]) H { s with heap := h2, toks := s.toks + (ps.zip us).length } := I.kept k2
  have hI : PySem.W.Looks (model P w) h2 (isInstance (.ref x) (.type "ValueError")) true := (show PySem.W.InstAt h2 x ({ cls := .ref C, dict := none, data := .fields #[.ref t1, .none, .none, .none, .bool false, .none] } : Obj) C none from ⟨k2 _ _ ox, rfl, rfl, trivial⟩).type.andThen (PySem.W.looks_subIn K2 Xc.ve)
  have hup := Xc.up
  unfold PySem.W.ks_superIn at hup
  rw [hcdC] at hup
  refine PySem.W.kxs_getMethod PySem.W.kxs_ValueError hso (PySem.W.looks_opaque K2 Xc.np) (l₀ := cdC.mro) (fun A Q E s k q => wpAny_bind ((PySem.W.looks_clsIn K2 hcdC) A _ E s k (wpAny_pure q))) rfl K2 hup hI hxC (by decide) ?_
  dsimp only
  have k3 : ∀ b o, h2.get? b = some o → (h2.push (PySem.W.kxs_mw "ValueError.__init__" x)).get? b = some o := fun b o e => Heap.get?_push_of_some _ e
  have I3 : Inv (ncx (L2.CX P w) P w K mg base N F f A outer s H E) [] (startF N vs [none]) H { s with heap := h2.push (PySem.W.kxs_mw "ValueError.__init__" x), toks := s.toks + (ps.zip us).length + 1 } := I2.kept k3
  have hmw : (h2.push (PySem.W.kxs_mw "ValueError.__init__" x)).get? h2.objs.size = some (PySem.W.kxs_mw "ValueError.__init__" x) := Heap.get?_push_size _ rfl
  refine PySem.W.kxs_callWith (i := "ValueError.__init__") (x := x) (by rfl) (Calls.evalArgs_plain (Calls.spliced_cons (Calls.Constant_str (k := j) (pos := p3) (Calls.spliced_nil ⟨hmw, ?_⟩))))
  dsimp only [List.nil_append]
  obtain ⟨nm, q, N', bs, bm, sn, sub, ab, col, dd, k0, k1, k2', k3', k5, hC, hbm⟩ := Xc.T.cls
  have K3 : K.In (h2.push (PySem.W.kxs_mw "ValueError.__init__" x)) := K2.keeps k3
  refine mw_call hmw (K3 _ _ hC) (k3 _ _ (k2 _ _ ox)) fun h4 t4 k4 hx4 => ?_
  have I4 : Inv (ncx (L2.CX P w) P w K mg base N F f A outer s H E) [] (startF N vs [none]) H { s with heap := h4, toks := s.toks + (ps.zip us).length + 1 + 1 } := by
    have J := I3.write (t' := s.toks + (ps.zip us).length + 1 + 1) (x := x) (e := x) (o := exo x C none) (by rw [ex]; exact True.intro) (.inl rfl) k4 ⟨_, hx4⟩ (exo_ok hx4)
    have eu : upd H x (exo x C none) = H := by
      funext b
      by_cases hb : b = x
      · rw [hb, upd_same, ex]
      · rw [upd_ne hb]
    rw [eu] at J
    exact J
  obtain ⟨tt, ht, hq⟩ := go F rfl rfl rfl hrr
  refine wpAt_of_wpAny (wpAny_mono (ht.run [] _ (startF N vs [none]) H _ I4 hq) (fun fl s' hs => ?_) fun e s' hs => hs)
  have fin : ∀ {σ' : L2.St} {H' : Hp} {v : V} {u : Value}, Inv (ncx (L2.CX P w) P w K mg base N F f A outer s H E) [] σ' H' s' → L2.RelV v u → Q v H' → CE outer P w H s Q u s' :=
    fun {σ' H' v u} J rv q => ⟨v, H', J.os, J.bare, J.base, J.hok, rv, q⟩
  cases fl with
  | ret u =>
    obtain ⟨v, σ', H', J, rv, q⟩ := hs
    exact fin J rv q
  | next =>
    obtain ⟨σ', H', J, q⟩ := hs
    exact fin (v := V.non) (u := Value.none) J rfl q
  | brk =>
    obtain ⟨_, _, _, q⟩ := hs
    exact False.elim q
  | cont =>
    obtain ⟨_, _, _, q⟩ := hs
    exact False.elim q
end
end PD

set_option linter.all false
set_option maxRecDepth 100000
set_option maxHeartbeats 2000000
namespace PD
open PySem PySem.Spec PyProof.Rows L2 LamX NdefX

def spI0 (C : Addr) : Sp := fun vs H Q _ => ∃ x : Addr, vs = [.ref x] ∧ H x = some (exo x C none) ∧ Q .non H
def spI1 (C : Addr) (n1 : Str) : Sp := fun vs H Q _ => ∃ (x : Addr) (w1 : V), vs = [.ref x, w1] ∧ H x = some (exo x C none) ∧ ∀ dx, H dx = none → dx ≠ x → Q .non (upd (upd H dx (exd dx [(n1, w1)])) x (exo x C (some dx)))
def spI2 (C : Addr) (n1 n2 : Str) : Sp := fun vs H Q _ => ∃ (x : Addr) (w1 w2 : V), vs = [.ref x, w1, w2] ∧ H x = some (exo x C none) ∧ ∀ dx, H dx = none → dx ≠ x → Q .non (upd (upd (upd H dx (exd dx [(n1, w1)])) x (exo x C (some dx))) dx (exd dx [(n2, w2), (n1, w1)]))

structure InitS (qual : Str) (st : Stmt) (N ps : List Str) (rest : List Stmt) : Prop where
  sc : NScope N ps ["__class__"] (defScope st)
  p0 : ps[0]? = some ("self" : Str)
  pa : ((defArgs st).posonlyargs ++ (defArgs st).args).head?.map (·.arg) = some ("self" : Str)
  body : ∃ (z : Str) (j : Nat) (p0 p1 p2 p3 p4 p5 : Pos), defBody st = .Expr (.Call (.Attribute (.Call (.Name "super" p0) [] [] p1) "__init__" p2) [.Constant (.str z) j p3] [] p4) p5 :: rest ∧
    ∀ (f L cc : Addr) (cd : Value), (∃ pl : Sem Bool, eval (.Call (.Attribute (.Call (.Name "super" p0) [] [] p1) "__init__" p2) [.Constant (.str z) j p3] [] p4) (PySem.W.ksEnv qual (defScope st) L f cd cc) = (do
      let ov ← attributeBase (.Call (.Name "super" p0) [] [] p1) "__init__" (PySem.W.ksEnv qual (defScope st) L f cd cc) (eval (.Call (.Name "super" p0) [] [] p1) (PySem.W.ksEnv qual (defScope st) L f cd cc))
      standAt p2.atName
      let (g, first) ← holding [ov] (getMethod ov "__init__" pl)
      callWith p4 g first (backTo p4 (starEach [.Constant (.str z) j p3] (PySem.W.ksEnv qual (defScope st) L f cd cc))) [])) ∧
      swapsWith (.Call (.Attribute (.Call (.Name "super" p0) [] [] p1) "__init__" p2) [.Constant (.str z) j p3] [] p4) none p5.line (PySem.W.ksEnv qual (defScope st) L f cd cc) = pure false ∧ interactive (PySem.W.ksEnv qual (defScope st) L f cd cc) = false
  sup : (defScope st).names.lookup ("super" : Str) = some .globalImplicit

section
variable {P : Program} {w : World} {K : PySem.W.Frag} {mg : Str → Option Value} {base : Heap} {C f : Addr} {qual : Str} {st : Stmt} {fd : FuncData} {N ps : List Str} {rest : List Stmt}
theorem init_ok (Fi : InitF P K C f qual st fd) (Xc : ExCls K C) (ms : mg "super" = none) (S : InitS qual st N ps rest) {sp : Sp} (len : ∀ vs H Q E, sp vs H Q E → vs.length = ps.length)
    (hx : ∀ vs H Q E, sp vs H Q E → ∃ x : Addr, vs[0]? = some (.ref x) ∧ H x = some (exo x C none))
    (go : ∀ (F : NF) (A : Around) (outer : List Env) (s : Shared) (H : Hp) (vs : List V) (Q : VK) (E : XK), F.scope = defScope st → sp vs H Q E →
      ∃ t, PSs (ncx (L2.CX P w) P w K mg base N F f A outer s H E) rest t ∧ t { nx := fun _ H' => Q .non H', rt := Q } (startF N vs [none]) H) :
    FnOk P w K mg base (L2.CX P w) 1 f fd ps sp := by
  refine ⟨len, fun A outer s H args us vs Q E hr e0 hb r h => ?_⟩
  obtain ⟨x, hx0, hx1⟩ := hx _ _ _ _ h
  obtain ⟨z, j, p0, p1, p2, p3, p4, p5, hbody, hev⟩ := S.body
  refine init_run (k := 0) Fi Xc ms S.sc S.p0 S.pa hbody (fun L cc cd => ?_) S.sup hr e0 hb r (len _ _ _ _ h) hx0 hx1 fun F h1 h2 h3 _ => go F A outer s H vs Q E h3 h
  obtain ⟨⟨pl, q1⟩, q2, q3⟩ := hev f L cc cd
  exact ⟨pl, q1, q2, q3⟩
theorem init0 (Fi : InitF P K C f qual st fd) (Xc : ExCls K C) (ms : mg "super" = none) (S : InitS qual st N ["self"] []) : FnOk P w K mg base (L2.CX P w) 1 f fd ["self"] (spI0 C) := by
  refine init_ok Fi Xc ms S (fun vs H Q E ⟨x, h, _⟩ => by rw [h]; rfl) (fun vs H Q E ⟨x, h, h1, _⟩ => ⟨x, by rw [h]; rfl, h1⟩) fun F A outer s H vs Q E hF ⟨x, h, h1, h2⟩ => ⟨_, pss_nil, h2⟩
theorem ost_go {X : Cx} {D : Ends} {σ : L2.St} {H : Hp} {i k : Nat} {a : Addr} {n : Str} {v : V} (T : OexC X.K C) (hn : PySem.W.findIn X.K (.ref C) n = some none) (h0 : σ[i]? = some (some (.ref a))) (h1 : σ[k]? = some (some v)) (ha : H a = some (exo a C none))
    (go : ∀ dx, H dx = none → dx ≠ a → D.nx σ (upd (upd H dx (exd dx [(n, v)])) a (exo a C (some dx)))) : tOst X.K n (tVar i) (tVar k) D σ H :=
  ⟨v, h1, .ref a, h0, a, C, rfl, T, hn, .inl ⟨ha, go⟩⟩
theorem ost_more {X : Cx} {D : Ends} {σ : L2.St} {H : Hp} {i k : Nat} {a dx : Addr} {n : Str} {v : V} {fs : List (Str × V)} (T : OexC X.K C) (hn : PySem.W.findIn X.K (.ref C) n = some none) (h0 : σ[i]? = some (some (.ref a))) (h1 : σ[k]? = some (some v)) (ha : H a = some (exo a C (some dx))) (hd : H dx = some (exd dx fs)) (hl : fs.length ≤ 900)
    (go : D.nx σ (upd H dx (exd dx ((n, v) :: fs)))) : tOst X.K n (tVar i) (tVar k) D σ H :=
  ⟨v, h1, .ref a, h0, a, C, rfl, T, hn, .inr ⟨dx, fs, ha, hd, hl, go⟩⟩
theorem init1 {n1 : Str} {q0 q1 q2 q3 : Pos} (Fi : InitF P K C f qual st fd) (Xc : ExCls K C) (ms : mg "super" = none) (S : InitS qual st ["self", n1, "__class__"] ["self", n1] [.Assign [.Attribute (.Name "self" q0) n1 q1] (.Name n1 q2) q3])
    (hn : PySem.W.findIn K (.ref C) n1 = some none) (hd : (n1 == ("__debug__" : Str)) = false) (hc : (n1 == ("__classdict__" : Str)) = false)
    (hsw : ∀ env : Env, swapsWith (.Name n1 q2) (some (.Attribute (.Name "self" q0) n1 q1)) q3.line env = pure false) : FnOk P w K mg base (L2.CX P w) 1 f fd ["self", n1] (spI1 C n1) := by
  refine init_ok Fi Xc ms S (fun vs H Q E ⟨x, w1, h, _⟩ => by rw [h]; rfl) (fun vs H Q E ⟨x, w1, h, h1, _⟩ => ⟨x, by rw [h]; rfl, h1⟩) fun F A outer s H vs Q E hF ⟨x, w1, h, h1, h2⟩ => ?_
  have v0 : Vis (ncx (L2.CX P w) P w K mg base ["self", n1, "__class__"] F f A outer s H E).env.scope "self" := .inl (by show F.scope.names.lookup _ = _; rw [hF]; exact S.sc.par _ (by simp))
  have v1 : Vis (ncx (L2.CX P w) P w K mg base ["self", n1, "__class__"] F f A outer s H E).env.scope n1 := .inl (by show F.scope.names.lookup _ = _; rw [hF]; exact S.sc.par _ (by simp))
  refine ⟨_, pss_one (ps_ost (pv 0 rfl v0) (pv 1 rfl v1 hd hc) (hsw _)), ?_⟩
  subst h
  exact ost_go (C := C) Xc.T hn rfl rfl h1 fun dx d0 ne => h2 dx d0 ne
theorem init2 {n1 n2 : Str} {q0 q1 q2 q3 r0 r1 r2 r3 : Pos} (Fi : InitF P K C f qual st fd) (Xc : ExCls K C) (ms : mg "super" = none)
    (S : InitS qual st ["self", n1, n2, "__class__"] ["self", n1, n2] [.Assign [.Attribute (.Name "self" q0) n1 q1] (.Name n1 q2) q3, .Assign [.Attribute (.Name "self" r0) n2 r1] (.Name n2 r2) r3])
    (hn : PySem.W.findIn K (.ref C) n1 = some none) (hd : (n1 == ("__debug__" : Str)) = false) (hc : (n1 == ("__classdict__" : Str)) = false) (hn' : PySem.W.findIn K (.ref C) n2 = some none) (hd' : (n2 == ("__debug__" : Str)) = false) (hc' : (n2 == ("__classdict__" : Str)) = false)
    (hsw : ∀ env : Env, swapsWith (.Name n1 q2) (some (.Attribute (.Name "self" q0) n1 q1)) q3.line env = pure false) (hsw' : ∀ env : Env, swapsWith (.Name n2 r2) (some (.Attribute (.Name "self" r0) n2 r1)) r3.line env = pure false) : FnOk P w K mg base (L2.CX P w) 1 f fd ["self", n1, n2] (spI2 C n1 n2) := by
  refine init_ok Fi Xc ms S (fun vs H Q E ⟨x, w1, w2, h, _⟩ => by rw [h]; rfl) (fun vs H Q E ⟨x, w1, w2, h, h1, _⟩ => ⟨x, by rw [h]; rfl, h1⟩) fun F A outer s H vs Q E hF ⟨x, w1, w2, h, h1, h2⟩ => ?_
  have v0 : Vis (ncx (L2.CX P w) P w K mg base ["self", n1, n2, "__class__"] F f A outer s H E).env.scope "self" := .inl (by show F.scope.names.lookup _ = _; rw [hF]; exact S.sc.par _ (by simp))
  have v1 : Vis (ncx (L2.CX P w) P w K mg base ["self", n1, n2, "__class__"] F f A outer s H E).env.scope n1 := .inl (by show F.scope.names.lookup _ = _; rw [hF]; exact S.sc.par _ (by simp))
  have v2 : Vis (ncx (L2.CX P w) P w K mg base ["self", n1, n2, "__class__"] F f A outer s H E).env.scope n2 := .inl (by show F.scope.names.lookup _ = _; rw [hF]; exact S.sc.par _ (by simp))
  refine ⟨_, pss_cons (ps_ost (pv 0 rfl v0) (pv 1 rfl v1 hd hc) (hsw _)) (pss_one (ps_ost (pv 0 rfl v0) (pv 2 rfl v2 hd' hc') (hsw' _))), ?_⟩
  subst h
  refine ost_go (C := C) Xc.T hn rfl rfl h1 fun dx d0 ne => ?_
  refine ost_more (C := C) (dx := dx) Xc.T hn' rfl rfl upd_same ?_ (by simp) (h2 dx d0 ne)
  rw [upd_ne ne, upd_same]
end
end PD

set_option linter.all false
set_option maxRecDepth 100000
set_option maxHeartbeats 2000000
namespace PD
open PySem PySem.Spec PyProof.Rows L2 LamX NdefX

section
variable {X : Cx} {Z : Zt} {Γ : Gm} {e : Expr} {es : List Expr} {fs : S → R (List W)} {pos p rp : Pos} {c : Str} {C fI : Addr} {fd : FuncData} {k : Nat}
structure CanMk (X : Cx) (c : Str) (C fI : Addr) (fd : FuncData) (ps : List Str) (sp : Sp) : Prop where
  T : OexC X.K C
  ini : PySem.W.findIn X.K (.ref C) "__init__" = some (some (.ref fI))
  ty : PySem.W.typeIn X.K (.ref fI) = some (.type "function")
  fn : FnOk X.prog X.w X.K X.mg X.base (L2.CX X.prog X.w) 1 fI fd ps sp
  bi : L2.Binds X.K fd ps []
  mg : X.mg c = some (.ref C)
theorem xo_ne {a C : Addr} {H1 : Hp} (h : H1 a = none) {d : Addr} (hd : upd H1 a (exo a C none) d = none) : d ≠ a ∧ H1 d = none := by
  have ne : d ≠ a := fun z => by rw [z, upd_same] at hd; cases hd
  exact ⟨ne, by rw [upd_ne ne] at hd; exact hd⟩
theorem pe_oex0 (M : CanMk X c C fI fd ["self"] (spI0 C)) (hx : Passes (L2.CX X.prog X.w) X (fun _ _ _ => False)) (hr : Room 2 X.A) (hg : Gl X c) (hdb : (c == ("__debug__" : Str)) = false := by decide) :
    PE X (.Call (.Name c p) [] [] pos) (fun _ H Q => ∀ a, H a = none → Q (.ref a) (upd H a (exo a C none))) := by
  refine ⟨fun pins s σ H Q I h => ?_⟩
  obtain ⟨nm, q, N, bs, bm, sn, sub, ab, col, dd, k0, k1, k2, k3, k5, hC, hbm⟩ := M.T.cls
  refine wpAny_Call_Name_kw (ld_glob I hg M.mg ?_ hdb)
  refine PySem.W.callWith_K0 I.kIn M.T.kC ?_
  show wpAny _ _ (call (.ref C) []) _ _ _
  obtain ⟨hp, g, dr, tk, os⟩ := s
  let hp2 : Heap := (hp.push (PySem.W.kdv_tup [])).push (PySem.HandSPX.excO C hp.objs.size)
  let a : Addr := hp.objs.size + 1
  have le : hp.objs.size ≤ a := Nat.le_succ _
  have hn : H a = none := I.hok.fresh le
  have kp : ∀ b o, hp.get? b = some o → hp2.get? b = some o := fun b o e => Heap.get?_push_of_some _ (Heap.get?_push_of_some _ e)
  have ga : ((hp.push (PySem.W.kdv_tup [])).push (PySem.HandSPX.excO C hp.objs.size)).get? (hp.objs.size + 1) = some (PySem.HandSPX.excO C hp.objs.size) := by heap_get
  have I2 : Inv X pins σ (upd H a (exo a C none)) ⟨hp2, g, dr, tk, os⟩ := I.laid (t' := tk) (a := a) (o := exo a C none) (h' := hp2) kp le (exo_ok ga)
  have sp0 : spI0 C [V.ref a] (upd H a (exo a C none)) (fun v H2 => v = .non ∧ H2 = upd H a (exo a C none)) (fun _ _ _ => False) := ⟨a, rfl, upd_same, rfl, rfl⟩
  refine wpAny_call (PySem.HandSPX.call_own PySem.F.excBase_ValueError (fun Y => PySem.HandSPX.refsVE_contains Y bm hbm) (I.kIn _ _ hC) (PySem.W.looks_findIn I.kIn M.ini) (fun self => PySem.W.bind_fn I.kIn self M.ty) (by simp)
    (codeAny_mono (M.fn.run _ X.stack ⟨hp2, g, dr, tk, os⟩ _ ⟨[Value.ref a], []⟩ [Value.ref a] [V.ref a] _ _ (hr.make C [] []) (I2.env0.make C [] []) (M.bi _ [Value.ref a] I2.kIn rfl) (.cons rfl .nil) sp0) fun r s' z => ?_))
  cases r with
  | error er => exact hx pins σ _ _ er s' I2 z
  | ok fl =>
    cases fl with
    | ret u =>
      obtain ⟨v, H2, J, rv, ev, eH⟩ := I2.after z
      subst ev
      subst eH
      exact ⟨rv, .ref a, _, J, rfl, h a hn⟩
    | next => exact False.elim z
    | brk => exact False.elim z
    | cont => exact False.elim z
end
end PD

set_option linter.all false
set_option maxRecDepth 100000
set_option maxHeartbeats 2000000
namespace PD
open PySem PySem.Spec PyProof.Rows L2 LamX NdefX

theorem run_hot {CX : CXT} {P : Program} {w : World} {K : PySem.W.Frag} {mg : Str → Option Value} {base : Heap} {k : Nat} {f : Addr} {name qual : Str} {params : Arguments} {body : List Stmt} {scope : Scope} {dV kV doc pm cdv ct oc : Value} {an od : Option Addr}
    {osl : Array (Option Value)} {N ps : List Str} (lk : K.lookup f = some ⟨oc, od, .func (PySem.W.fnOf name qual params body scope dV kV doc pm an cdv ct), osl⟩) (hcd : PySem.W.codeIn K cdv qual = true) (S : FnScope N ps scope)
    {A : Around} {outer : List Env} {s : Shared} {H : Hp} {args : Args} {us : List Value} {vs : List V} {Q : VK} {E : XK} {p : Addr × Obj} (hr : L2H.RoomH (k + 1) A) (hp : L2H.PinOk outer H s p) (e0 : Env0 P w K mg base A outer s H)
    (hb : BindsTo s (PySem.W.fnOf name qual params body scope dV kV doc pm an cdv ct) args (ps.zip us)) (r : Vals vs us) (hl : vs.length = ps.length)
    (go : L2H.RoomH k (A.deeper (envOfC qual scope s.heap.objs.size f cdv)) → ∃ t, PSs (L2H.cxH CX P w K mg base N qual scope f cdv A outer s H E p) body t ∧ t { nx := fun _ H' => Q .non H', rt := Q } (L2.start N vs) H) :
    codeAny (model P w) A (.call (.ref f) args) (CR CX outer P w H s Q E) s := by
  have KX : K.In s.heap := e0.mod.kin.keeps fun b o z => (e0.bs b o z).1
  have lim : s.heap.NoLimit := e0.mod.nolimit.keeps fun b o z => (e0.bs b o z).1
  have kinds : ∀ y ∈ ps.zip us, scope.names.lookup y.1 = some .local ∨ (scope.names.lookup y.1 = some .cell ∧ ((cellsFrom (s.heap.objs.size + 1) scope.names []).lookup y.1).isSome = true) := fun y hy => by
    rcases S.par y.1 (List.of_mem_zip hy).1 with q | q
    · exact Or.inl q
    · exact Or.inr ⟨q, PySem.W.cellsFrom_some _ _ _ (Or.inl q)⟩
  refine codeAny_call_function hr.depth (KX _ _ lk) rfl S.co S.gen rfl (PySem.W.codeRec_of KX hcd) (hb _ _ _ _ ?_)
  refine wpAny_newFunctionEnv_cells S.kind kinds fun env ev s1 x => ?_
  subst ev
  refine ⟨lim.keeps x.toInCall.keep, codeAny_func ?_⟩
  obtain ⟨t, ht, q⟩ := go (hr.deeper _)
  have J := L2H.inv_startH (CX := CX) (N := N) (qual := qual) (f := f) (cd := cdv) (A := A) (E := E) S hp e0 hl r x
  refine wpAny_mono (ht.run [] s1 (L2.start N vs) H _ J q) (fun fl s' z => ?_) fun e s' z => z
  cases fl with
  | ret u =>
    obtain ⟨v, σ', H', J', rv, q⟩ := z
    exact ⟨v, H', J'.os, J'.bare, J'.base, J'.hok, rv, q⟩
  | next =>
    obtain ⟨σ', H', J', q⟩ := z
    exact ⟨.non, H', J'.os, J'.bare, J'.base, J'.hok, rfl, q⟩
  | brk =>
    obtain ⟨_, _, _, q⟩ := z
    exact False.elim q
  | cont =>
    obtain ⟨_, _, _, q⟩ := z
    exact False.elim q

def HasX (X : Cx) (a : Addr) (cls : Value) (d : Option Addr) : Prop := ∃ oe : Obj, (a, oe) ∈ X.pn ∧ Zc cls d oe ∧ ∃ vs, oe.data = .fields vs
section
variable {X : Cx} {Z : Zt} {Γ : Gm} {a CE : Addr} {d : Option Addr} {pos p p1 p2 : Pos} {x T f : Str}
theorem HasX.inst {cls : Value} {pins : List (Addr × Obj)} {σ : L2.St} {H : Hp} {s : Shared} (h : HasX X a cls d) (I : Inv X pins σ H s) : ∃ oe vs, s.heap.get? a = some oe ∧ Zc cls d oe ∧ oe.data = .fields vs := by
  obtain ⟨oe, hm, hz, vs, hv⟩ := h
  exact ⟨oe, vs, (I.pin (a, oe) (List.mem_append_left _ hm)).1, hz, hv⟩
def rIsX (K : PySem.W.Frag) (CE a : Addr) (d : Option Addr) : List V → Hp → VK → Prop := fun xs H Q => ∃ (c : V) (cv : Value) (b : Bool), xs = [.ref a, c] ∧ (∀ u, L2.RelV c u → u = cv) ∧ PySem.W.kitOne K (.ref CE) cv = some b ∧
  (∀ dd, d = some dd → ∃ fs, H dd = some (.xd fs)) ∧ Q (.bl b) H
theorem call_isX (C : ExcC X.K CE) (h : HasX X a (.ref CE) d) : CallR X (.builtin "isinstance") (rIsX X.K CE a d) := by
  intro pins s σ H xs us Q I r hh
  obtain ⟨c, cv, b, rfl, hcv, e, hdd, q⟩ := hh
  cases r with
  | cons rx rr =>
    cases rr with
    | cons rt rr =>
      cases rr
      cases rx
      have ec := hcv _ rt
      subst ec
      obtain ⟨oe, vs, hget, hz, hv⟩ := h.inst I
      have hcl : (PySem.W.clsIn X.K CE).isSome = true := by
        obtain ⟨cd, hc, _⟩ := PySem.W.any_some C.hd
        rw [hc]; rfl
      obtain ⟨od, J⟩ : ∃ od, PySem.W.InstAt s.heap a oe CE od := by
        obtain ⟨oc, odc, oda, osl⟩ := oe
        obtain ⟨h1, h2⟩ := hz
        dsimp only at h1 h2 hv
        subst h1 h2 hv
        cases odc with
        | none => exact ⟨none, hget, rfl, rfl, trivial⟩
        | some dd =>
          obtain ⟨fs, hfs⟩ := hdd dd rfl
          obtain ⟨mA, ⟨od, es, ep, ho, _⟩, _⟩ := (show ObjOk X.prog X.w H s.heap dd (.xd fs) from I.hok dd _ hfs)
          exact ⟨some od, hget, rfl, rfl, ho⟩
      exact PySem.W.kia_one (PySem.W.kitx_exc hcl C.hg C.hk C.hs C.ha C.hn C.ht C.hm) I.kIn J e (fun z => nomatch z) fun tk => ⟨.bl b, H, I.kept (t' := tk) fun _ _ z => z, rfl, q⟩
theorem de_isX (j : Nat) {c : V} {cv : Value} {b : Bool} (hb : Γ.bor j = some (.ref a)) (h : HasX X a (.ref CE) d) (C : ExcC X.K CE) (hdd : ∀ dd, d = some dd → ∃ fs, Γ.pin dd (.xd fs)) (hk : PySem.W.kitOne X.K (.ref CE) cv = some b) (hrel : ∀ u, L2.RelV c u → u = cv)
    (ht : PE X (.Name T p2) (tC c)) (hg : Gl X "isinstance") (hm : X.mg "isinstance" = none) (hN : X.N[j]? = some x := by rfl) (hv : Vis X.env.scope x := by first | exact Or.inl rfl | exact Or.inr (Or.inl rfl) | exact Or.inr (Or.inr rfl))
    (hd : (x == ("__debug__" : Str)) = false := by decide) (hcd : (x == ("__classdict__" : Str)) = false := by decide)
    (he : starEach [.Name x p1, .Name T p2] X.env = (false, eval (.Name x p1) X.env) :: starEach [.Name T p2] X.env := by rfl) (he2 : starEach [.Name T p2] X.env = (false, eval (.Name T p2) X.env) :: starEach [] X.env := by rfl) (hpl : (backTo pos (starEach [.Name T p2] X.env)).any (·.1) = false := by rfl) :
    PE X (.Call (.Name "isinstance" p) [.Name x p1, .Name T p2] [] pos) (tE Z Γ (eC (.bl b))) := by
  refine pe_imp (pe_callB (call_isX C h) hg hm (by decide +kernel) (pa_cons (pv j hN hv hd hcd) (pa_cons ht pa_nil he2) he) (he := he) (hpl := hpl)) fun σ H Q z => ?_
  obtain ⟨s, Lv, R0, po⟩ := z
  refine ⟨.ref a, R0.bor j _ hb, c, cv, b, rfl, hrel, hk, fun dd e => ?_, po.ok R0 (rep_bl (Z := Z) (Y := Γ.X Lv) (H := H))⟩
  obtain ⟨fs, hp⟩ := hdd dd e
  exact ⟨fs, (R0.pn dd _ hp).2.2.2⟩
def eXf (ns : List Str) (ds : List D) (f : Str) : S → R W := fun s => match (ns.zip ds).lookup f with
  | some d => .ok (.d d) s
  | none => .st
theorem lookup_rep {Y : Addr → Prop} {H : Hp} : ∀ {ns : List Str} {ds : List D} {vs : List V} {f : Str} {d : D}, RepL Z Y H ds vs → ns.length = vs.length → (ns.zip ds).lookup f = some d → ∃ v, (ns.zip vs).lookup f = some v ∧ Rep Z Y H d v
  | [], ds, vs, f, d, r, hl, e => by simp at e
  | n :: ns, [], vs, f, d, r, hl, e => by simp at e
  | n :: ns, d0 :: ds, vs, f, d, r, hl, e => by
    simp only [RepL] at r
    obtain ⟨v, vr, rfl, r1, r2⟩ := r
    rw [List.zip_cons_cons, List.lookup_cons] at e ⊢
    cases q : f == n with
    | true =>
      rw [q] at e
      cases e
      exact ⟨v, rfl, r1⟩
    | false =>
      rw [q] at e
      exact lookup_rep r2 (by simpa using hl) e
theorem de_xf (j : Nat) {dd : Addr} {ns : List Str} {ds : List D} {vs : List V} (hb : Γ.bor j = some (.ref a)) (hB : Γ.B = []) (h : HasX X a (.ref CE) (some dd)) (T : XfC X.K CE) (hno : PySem.W.findIn X.K (.ref CE) f = some none) (hp : Γ.pin dd (.xd (ns.zip vs))) (hl : ns.length = vs.length)
    (r : RepL Z Γ.X0 Γ.H0 ds vs) (hN : X.N[j]? = some x := by rfl) (hv : Vis X.env.scope x := by first | exact Or.inl rfl | exact Or.inr (Or.inl rfl) | exact Or.inr (Or.inr rfl))
    (hd : (x == ("__debug__" : Str)) = false := by decide) (hcd : (x == ("__classdict__" : Str)) = false := by decide) (hbase : attributeBase (.Name x p1) f X.env (eval (.Name x p1) X.env) = eval (.Name x p1) X.env := by rfl) :
    PE X (.Attribute (.Name x p1) f pos) (tE Z Γ (eXf ns ds f)) := by
  refine ⟨fun pins s σ H Q I z => ?_⟩
  obtain ⟨sl, Lv, R0, po⟩ := z
  unfold eXf at po
  cases e1 : (ns.zip ds).lookup f with
  | none => rw [e1] at po; exact po.elim
  | some d =>
    rw [e1] at po
    have F0 : Fw Z Γ.X0 Γ.H0 (Γ.X Lv) H := by
      refine ⟨fun b o h _ t => R0.keep b o h (fun z => by rw [hB] at z; cases z) t, R0.ktbl, fun b h => ?_, fun _ => R0.tb⟩
      rcases h with h | ⟨i, h⟩
      · exact .inl h
      · rcases R0.lvb i b h with z | z
        · rw [hB] at z; cases z.2
        · exact .inr z.1
    obtain ⟨v, hv1, rv⟩ := lookup_rep (RepL.mono F0 _ _ r) hl e1
    have hx := (R0.pn dd _ hp).2.2.2
    refine attr_of hbase (thn ((pv (pos := p1) j hN hv hd hcd).run pins s σ H (fun v K1 => v = .ref a ∧ K1 = H) I ⟨.ref a, R0.bor j _ hb, rfl, rfl⟩) fun u s1 ⟨w, K1, I1, r1, q1⟩ => ?_)
    obtain ⟨ev, eH⟩ := q1
    subst ev
    subst eH
    obtain rfl : u = Value.ref a := r1
    obtain ⟨oe, ovs, hget, hz, hov⟩ := h.inst I1
    have hxo : ObjOk X.prog X.w K1 s1.heap dd (.xd (ns.zip vs)) := I1.hok dd _ hx
    obtain ⟨mA, hns, hr⟩ := hxo
    obtain ⟨od, ho, hlk⟩ := lookIn_ns hns
    obtain ⟨u', hu, ru⟩ := RelO.some_of (v := v) (o := mA f) (by rw [← hv1]; exact hr f)
    have J : PySem.W.InstAt s1.heap a oe CE (some od) := ⟨hget, hz.1, by unfold PySem.W.notCls; rw [hov] <;> rfl, by rw [hz.2]; exact ho⟩
    exact HandSPX.exc_get I1.kIn J T.ga T.gg T.exC (PySem.W.findObj_own T.hdC hno rfl (by rw [hlk, hu])) (handed_of ru) ⟨v, K1, I1.tok _, ru, po.ok R0 rv⟩
end

def rCountD (K : PySem.W.Frag) : V → List V → Hp → VK → Prop := fun x xs H Q => ∃ (a : Addr) (y : V) (d : PyData) (ds : List PyData), x = V.ref a ∧ xs = [y] ∧ Dp K H (V.ref a) (.list ds) ∧ Dp K H y d ∧
  SeqAt.shaped (.list ds) = true ∧ SeqAt.shaped d = true ∧ Q (.int ((ds.countP fun z => PyData.eqv z d : Nat) : Int)) H
section
variable {X : Cx} {Z : Zt} {Γ : Gm}
theorem mt_countD (hu : X.A.units + 65 < cLine) : MtR X "list.count" (rCountD X.K) := by
  intro pins s σ H x xs v us Q I rx rxs h
  obtain ⟨a, y, d, ds, rfl, rfl, hl, hy, sl, sd, q⟩ := h
  cases rx
  obtain ⟨uy, rfl, ry⟩ := rxs.one
  obtain ⟨bs, r1⟩ := Dp.reads I d y uy hy ry
  have lay : PyData.canLayAll0 ds = true := SeqAt.canLay_of_shaped sl
  cases hl with
  | lst hs ha =>
    obtain ⟨its, rv, ⟨⟨cls, dd, data, sls⟩, n, ho, hc, hdn, hdt⟩, hlen⟩ := I.list hs
    simp only at hc hdt
    subst hc hdt
    obtain ⟨as, h4⟩ := Dp.readsAll I ds _ its ha rv
    have hmap : its.map (SeqAt.readOf s.heap) = ds := SeqAt.readsAll_map ds its as lay h4
    refine call_meets PySem.F.slot_list_count ⟨_, ho, rfl⟩ PySem.F.entry_list_count (PySem.F.args_list_count_2 _ _)
      (SeqAt.list_countAt a its.toArray n dd sls uy (fun u => PyData.eqv (SeqAt.readOf s.heap u) d)) ⟨ho, SeqAt.items_eqAt (vs := its.toArray) (show ReadsAll s.heap its.toArray.toList ds as from h4) r1 lay (SeqAt.canLay_of_shaped sd) (room_in_shaped sd hu), ?_⟩
    have ec : its.toArray.toList.countP (fun u => PyData.eqv (SeqAt.readOf s.heap u) d) = ds.countP fun z => PyData.eqv z d := by
      rw [← hmap, List.countP_map]; rfl
    refine ⟨.int _, H, I.tok _, ⟨s.toks, ?_⟩, q⟩
    rw [ec]
def gCnt (ds : List D) (d : D) : Option D := (dok d).bind fun p => (dok (.lst ds)).bind fun q => match q with
  | .list ps => some (.int ((ps.countP fun z => PyData.eqv z p : Nat) : Int))
  | _ => none
def eCnt (fo fe : S → R W) : S → R W := fun s => (fo s).bind fun w s1 => match fzW w with
  | some (.lst ds) => (fe s1).bind fun u s2 => ofO s2 (((fzW u).bind fun d => gCnt ds d).map .d)
  | _ => .st
variable {o e : Expr} {fo fe : S → R W} {apos cpos : Pos}
theorem de_count (hK : X.K = Z.K) (hu : X.A.units + 65 < cLine) (ho : PE X o (tE Z Γ fo)) (he : PE X e (tE Z Γ fe))
    (hbase : attributeBase o "count" X.env (eval o X.env) = eval o X.env := by rfl)
    (hfew : ((backTo cpos (starEach [e] X.env)).all (fun x => !x.1) && (backToKw cpos (keywordEach [] X.env)).all (fun x => x.1.isSome)
      && decide (([e] : List Expr).length + ([] : List Keyword).length + (if ([] : List Keyword).isEmpty then 0 else 1) < 30)) = true := by rfl)
    (hline : (apos.endLine == cpos.line) = true := by rfl) (hs : starEach [e] X.env = (false, eval e X.env) :: starEach [] X.env := by rfl) :
    PE X (.Call (.Attribute o "count" apos) [e] [] cpos) (tE Z Γ (eCnt fo fe)) := by
  refine pe_imp (pe_bm PySem.F.plainAttrs_list PySem.F.slot_list_count PySem.F.type_list_count (mt_countD hu) ho (pa_cons he pa_nil hs) hbase hfew hline hs rfl) fun σ H Q h => ?_
  obtain ⟨s, Lv, R0, po⟩ := h
  unfold eCnt at po
  refine ⟨s, Lv, R0, po.bind.mono fun v H1 ⟨w, s1, Lv1, _, R1, F1, r1, po1⟩ => ?_⟩
  split at po1
  · rename_i ds e1
    have r := fz_ok r1 e1
    have r' := r
    simp only [Rep] at r'
    obtain ⟨a, us, rfl, _, ha, _⟩ := r'
    refine ⟨.inl ⟨rfl, us, .inl (.inl ha)⟩, s1, Lv1, R1, po1.bind.mono fun y H2 ⟨u, s2, Lv2, _, R2, F2, r2, po2⟩ => ?_⟩
    cases e2 : fzW u with
    | none => rw [e2] at po2; exact po2.elim
    | some d =>
      rw [e2] at po2
      simp only [Option.bind_some] at po2
      have rd := fz_ok r2 e2
      have rl := r.mono F2
      unfold gCnt at po2
      cases e3 : dok d with
      | none => rw [e3] at po2; exact po2.elim
      | some p =>
        cases e4 : dok (.lst ds) with
        | none => rw [e3, e4] at po2; exact po2.elim
        | some q =>
          obtain ⟨t1, s1'⟩ := dok_ok e3
          obtain ⟨t2, s2'⟩ := dok_ok e4
          obtain ⟨ps, rfl, _⟩ := toP_lst t2
          rw [e3, e4] at po2
          simp only [Option.bind_some] at po2
          refine ⟨a, y, p, ps, rfl, rfl, ?_, ?_, s2', s1', ?_⟩
          · rw [hK]; exact rep_dp rl t2
          · rw [hK]; exact rep_dp rd t1
          · exact po2.ok R2 (show Rep Z (Γ.X Lv2) H2 (.int _) (.int _) from rep_int)
  · exact po1.elim
end
end PD

set_option linter.all false
set_option maxRecDepth 100000
set_option maxHeartbeats 2000000
namespace PD
open PySem PySem.Spec PyProof.Rows L2 LamX NdefX

section
variable {Z : Zt} {Y : Addr → Prop} {H : Hp} {dd : Addr} {fs : List (Str × V)}
theorem ne_xd (h : H dd = some (.xd fs)) {a : Addr} {o : HO} (e : H a = some o) (n : ∀ fs, o ≠ .xd fs) : ¬ (a = dd) := fun z => by
  rw [z, h] at e
  exact n fs (Option.some.inj e).symm
mutual
theorem rep_more (h : H dd = some (.xd fs)) : ∀ (d : D) (v : V), Rep Z Y H d v → Rep Z (fun a => Y a ∨ a = dd) H d v
  | .non, _, r => by simpa only [Rep] using r
  | .bl _, _, r => by simpa only [Rep] using r
  | .int _, _, r => by simpa only [Rep] using r
  | .str _, _, r => by simpa only [Rep] using r
  | .tup ds, v, r => by
    simp only [Rep] at r ⊢
    obtain ⟨a, vs, e, t, r⟩ := r
    refine ⟨a, vs, e, ?_, repL_more h ds vs r⟩
    rcases t with ⟨n, t⟩ | t
    · exact .inl ⟨fun z => z.elim n (ne_xd h t fun _ z => by cases z), t⟩
    · exact .inr t
  | .lst ds, v, r => by
    simp only [Rep] at r ⊢
    obtain ⟨a, vs, e, n, t, r⟩ := r
    exact ⟨a, vs, e, fun z => z.elim n (ne_xd h t fun _ z => by cases z), t, repL_more h ds vs r⟩
  | .dic ks ds, v, r => by
    simp only [Rep] at r ⊢
    obtain ⟨a, vs, e, n, hl, t, r⟩ := r
    exact ⟨a, vs, e, fun z => z.elim n (ne_xd h t fun _ z => by cases z), hl, t, repL_more h ds vs r⟩
  | .dit ks ds, v, r => by
    simp only [Rep] at r ⊢
    obtain ⟨a, vs, e, n, hl, t, r⟩ := r
    exact ⟨a, vs, e, fun z => z.elim n (ne_xd h t fun _ z => by cases z), hl, t, repL_more h ds vs r⟩
  | .ins c ns ds, v, r => by
    simp only [Rep] at r ⊢
    obtain ⟨a, C, dx, vs, e, n, hl, hm, t, r⟩ := r
    exact ⟨a, C, dx, vs, e, fun z => z.elim n (ne_xd h t fun _ z => by cases z), hl, hm, t, repL_more h ds vs r⟩
  | .fn _, _, r => by simpa only [Rep] using r
  | .scr xs, v, r => by
    simp only [Rep] at r ⊢
    obtain ⟨a, e, t⟩ := r
    refine ⟨a, e, ?_⟩
    rcases t with ⟨n, t⟩ | t
    · refine .inl ⟨fun z => z.elim n ?_, t⟩
      rcases t with t | ⟨o, t⟩
      · exact ne_xd h t fun _ z => by cases z
      · exact ne_xd h t fun _ z => by cases z
    · exact .inr t
theorem repL_more (h : H dd = some (.xd fs)) : ∀ (ds : List D) (vs : List V), RepL Z Y H ds vs → RepL Z (fun a => Y a ∨ a = dd) H ds vs
  | [], _, r => by simpa only [RepL] using r
  | d :: ds, vs, r => by
    simp only [RepL] at r ⊢
    obtain ⟨v, vr, e, r1, r2⟩ := r
    exact ⟨v, vr, e, rep_more h d v r1, repL_more h ds vr r2⟩
end
end

def Gx (Y : Addr → Prop) (H : Hp) (a : Addr) (d : Option Addr) : Gm :=
  ⟨fun x => Y x ∨ d = some x, H, [], fun i => if i = 0 then some (.ref a) else none, fun _ _ _ _ => False, fun x o => d = some x ∧ H x = some o⟩
def XfAt (Z : Zt) (Γ : Gm) (d : Option Addr) (ns : List Str) (ds : List D) : Prop :=
  (ns = [] ∧ d = none) ∨ ∃ dd vs, d = some dd ∧ Γ.pin dd (.xd (ns.zip vs)) ∧ ns.length = vs.length ∧ RepL Z Γ.X0 Γ.H0 ds vs
section
variable {X : Cx} {Z : Zt} {Γ : Gm} {a CE : Addr} {d : Option Addr} {ns : List Str} {ds : List D} {pos p1 : Pos} {x f : Str}
theorem XfAt.dict (h : XfAt Z Γ d ns ds) : ∀ dd, d = some dd → ∃ fs, Γ.pin dd (.xd fs) := fun dd e => by
  rcases h with ⟨_, h⟩ | ⟨dd', vs, h1, h2, _⟩
  · rw [h] at e; cases e
  · rw [h1] at e; cases e; exact ⟨_, h2⟩
theorem de_xfA (j : Nat) (hA : XfAt Z Γ d ns ds) (hb : Γ.bor j = some (.ref a)) (hB : Γ.B = []) (h : HasX X a (.ref CE) d) (T : XfC X.K CE) (hno : PySem.W.findIn X.K (.ref CE) f = some none)
    (hN : X.N[j]? = some x := by rfl) (hv : Vis X.env.scope x := by first | exact Or.inl rfl | exact Or.inr (Or.inl rfl) | exact Or.inr (Or.inr rfl))
    (hd : (x == ("__debug__" : Str)) = false := by decide) (hcd : (x == ("__classdict__" : Str)) = false := by decide) (hbase : attributeBase (.Name x p1) f X.env (eval (.Name x p1) X.env) = eval (.Name x p1) X.env := by rfl) :
    PE X (.Attribute (.Name x p1) f pos) (tE Z Γ (eXf ns ds f)) := by
  rcases hA with ⟨e1, e2⟩ | ⟨dd, vs, e1, e2, e3, e4⟩
  · subst e1
    refine ⟨fun pins s σ H Q I z => ?_⟩
    obtain ⟨s, Lv, R0, po⟩ := z
    exact False.elim po
  · subst e1
    exact de_xf j hb hB h T hno e2 e3 e4 hN hv hd hcd hbase
theorem rl_startX {Y : Addr → Prop} {H : Hp} {N : List Str} {c : Str} {cls : Value} (hN : 1 ≤ N.length) (hY : ∀ a, Y a → H a ≠ none) (tb : Tabs Z.T H) (x : ExR Z Y H c ns ds cls d) :
    Rl Z (Gx Y H a d) (List.replicate N.length Sl.no) (fun _ => []) (L2.start N [V.ref a]) H ∧ XfAt Z (Gx Y H a d) d ns ds := by
  obtain ⟨C, e1, e2, e3⟩ := x
  refine ⟨{ len := ?_, sl := fun i y hy => ?_, out := fun _ _ => rfl, nd := fun _ => List.nodup_nil, dj := fun i j b h _ => (nomatch h), lvb := fun i b h => (nomatch h), keep := fun b o h _ _ => h, ktbl := fun b ps h => ⟨ps, h⟩, st0 := fun b h => h, x0 := fun b h => ?_, bx := fun b h => (nomatch h), tb := tb, bor := fun i v h => ?_, pn := fun b o h => ?_ }, ?_⟩
  · unfold L2.start
    simp
    omega
  · rw [List.getElem?_replicate] at hy
    split at hy
    · cases hy; rfl
    · cases hy
  · rcases h with h | h
    · exact hY b h
    · rcases e3 with ⟨_, e3⟩ | ⟨dd, vs, e3, _, e4, _⟩
      · rw [e3] at h; cases h
      · rw [e3] at h; cases h; rw [e4]; simp
  · have h : (if i = 0 then some (V.ref a) else none) = some v := h
    by_cases hi : i = 0
    · rw [if_pos hi] at h
      cases h
      rw [hi]
      unfold L2.start
      simp
    · rw [if_neg hi] at h; cases h
  · obtain ⟨h1, h2⟩ := h
    refine ⟨.inl (.inr h1), .inl (by simp [Gx]), fun ps z => ?_, h2⟩
    rcases e3 with ⟨_, e3⟩ | ⟨dd, vs, e3, _, e4, _⟩
    · rw [e3] at h1; cases h1
    · rw [e3] at h1; cases h1; rw [e4] at h2; cases h2; cases z
  · rcases e3 with e3 | ⟨dd, vs, e3, e4, e5, e6⟩
    · exact .inl e3
    · refine .inr ⟨dd, vs, e3, ⟨e3, e5⟩, e4, ?_⟩
      have q := repL_more e5 ds vs e6
      have eq : (Gx Y H a d).X0 = fun b => Y b ∨ b = dd := by
        funext b
        show (Y b ∨ d = some b) = _
        rw [e3]
        exact propext ⟨fun z => z.imp id fun w => (Option.some.inj w).symm, fun z => z.imp id fun w => by rw [w]⟩
      rw [eq]
      exact q
end

def refM (n : Nat) (b : S → SR) : Option D := match b (List.replicate n Sl.no) with
  | .rt (.d d) _ => some d
  | _ => none
structure RefC (Z : Zt) (c : Str) (CE : Addr) (asked fields : List Str) (mk : Str → Bool) : Prop where
  C : ExcC Z.K CE
  T : XfC Z.K CE
  own : ∀ n ∈ asked, ∀ C' : Addr, Z.mg n = some (.ref C') → PySem.W.kitOne Z.K (.ref CE) (.ref C') = some (mk n)
  ve : PySem.W.kitOne Z.K (.ref CE) (.type "ValueError") = some (mk "ValueError")
  no : ∀ f ∈ fields, PySem.W.findIn Z.K (.ref CE) f = some none
structure RefOk (P : Program) (w : World) (Z : Zt) (base : Heap) (f : Addr) (fd : FuncData) (known : List Str) (m : Str → List Str → List D → Option D) : Prop where
  run : ∀ (A : Around) (outer : List Env) (s : Shared) (H : Hp) (args : Args) (Q : VK) (a : Addr) (oe : Obj) (d : Option Addr) (Y : Addr → Prop) (c : Str) (ns : List Str) (ds : List D) (CE : Addr), L2H.RoomH 2 A → L2H.PinOk outer H s (a, oe) → Zc (.ref CE) d oe → (∃ vs, oe.data = .fields vs) →
    Env0 P w Z.K Z.mg base A outer s H → BindsTo s fd args [("e", .ref a)] → c ∈ known → (∀ x, Y x → H x ≠ none) → Tabs Z.T H → ExR Z Y H c ns ds (.ref CE) d →
    (∃ r, m c ns ds = some r ∧ ∀ v H', Kp Z H H' → Rep Z Y H' r v → Q v H') → codeAny (model P w) A (.call (.ref f) args) (CR (L2.CX P w) outer P w H s Q fun _ _ _ => False) s
theorem okRef {P : Program} {w : World} {Z : Zt} {base : Heap} {x qual : Str} {st : Stmt} {f : Addr} {fd : FuncData} {N : List Str} {b : (Str → Bool) → List Str → List D → S → SR} {known asked fields : List Str} {mk : Str → Str → Bool}
    (F : Fun Z.K x qual st f fd) (Sc : FnScope N ["e"] (defScope st)) (hN : 1 ≤ N.length) (hk : ∀ c ∈ known, ∀ CE : Addr, Z.mg c = some (.ref CE) → RefC Z c CE asked fields (mk c))
    (go : ∀ (cdv : Value) (A : Around) (outer : List Env) (s : Shared) (Y : Addr → Prop) (H : Hp) (a : Addr) (oe : Obj) (d : Option Addr) (c : Str) (ns : List Str) (ds : List D) (CE : Addr), L2H.RoomH 1 (A.deeper (envOfC qual (defScope st) s.heap.objs.size f cdv)) → RefC Z c CE asked fields (mk c) →
      HasX (L2H.cxH (L2.CX P w) P w Z.K Z.mg base N qual (defScope st) f cdv A outer s H (fun _ _ _ => False) (a, oe)) a (.ref CE) d → XfAt Z (Gx Y H a d) d ns ds →
      PSs (L2H.cxH (L2.CX P w) P w Z.K Z.mg base N qual (defScope st) f cdv A outer s H (fun _ _ _ => False) (a, oe)) (defBody st) (tS Z (Gx Y H a d) (b (mk c) ns ds))) :
    RefOk P w Z base f fd known fun c ns ds => refM N.length (b (mk c) ns ds) := by
  refine ⟨fun A outer s H args Q a oe d Y c ns ds CE hr hp hz hf e0 hb hc hY tb hx po => ?_⟩
  obtain ⟨oc, od, kV, doc, pm, an, cdv, ct, osl, rfl, lk, hcd⟩ := F.ex
  obtain ⟨R0, hA⟩ := rl_startX (a := a) (N := N) hN hY tb hx
  have rc : RefC Z c CE asked fields (mk c) := by
    obtain ⟨C, e1, e2, _⟩ := hx
    cases e1
    exact hk c hc CE e2
  refine run_hot (N := N) (ps := ["e"]) (us := [.ref a]) (vs := [.ref a]) (k := 1) lk hcd Sc hr hp e0 hb (.cons rfl .nil) rfl fun hr' => ⟨_, go cdv A outer s Y H a oe d c ns ds CE hr' rc ⟨oe, List.mem_cons_self .., hz, hf⟩ hA, _, _, R0, ?_⟩
  obtain ⟨r, er, q⟩ := po
  unfold refM at er
  generalize b (mk c) ns ds (List.replicate N.length Sl.no) = y at er
  cases y with
  | rt rr s' =>
    cases rr with
    | d dd =>
      cases er
      intro v σ' H' Lv' L R' F' nd nw rv
      obtain ⟨eL, rv⟩ := rv
      subst eL
      exact q v H' (R'.kpOf rfl) (Rep.mono (Fw.refl.less fun y hy => .inl (.inl (.inl hy))) _ _ rv)
    | o o => cases er
  | nx s' => cases er
  | bk s' => cases er
  | ct s' => cases er
  | er c ns ds s' => cases er
  | st => cases er
end PD

set_option linter.all false
set_option maxRecDepth 100000
set_option maxHeartbeats 2000000
namespace PD
open PySem PySem.Spec PyProof.Rows L2 LamX NdefX

section
variable {X : Cx} {f : Addr} {F : NF} {b : Expr} {Np ps fr : List Str} {ws : List (Option V)} {k i : Nat} {tb : TE} {a : Str} {p1 p2 : Pos} {E : XK} {Wo : WX} {us0 : List Value} {vs0 : List V}
end

section
variable {X : Cx} {a fR : Addr} {oe : Obj} {cls : Value} {d : Option Addr} {pn : List (Addr × Obj)} {fdR : FuncData} {known : List Str} {m : Str → List Str → List D → Option D} {Z : Zt} {j : Nat} {x y : Str} {p q1 pos : Pos}
def tRef (Z : Zt) (known : List Str) (m : Str → List Str → List D → Option D) (cls : Value) (d : Option Addr) (H : Hp) (Q : VK) : Prop :=
  ∃ (Y : Addr → Prop) (c : Str) (ns : List Str) (ds : List D) (CE : Addr), cls = .ref CE ∧ c ∈ known ∧ (∀ x, Y x → H x ≠ none) ∧ Tabs Z.T H ∧ ExR Z Y H c ns ds (.ref CE) d ∧ ∃ r, m c ns ds = some r ∧ ∀ v H', Kp Z H H' → Rep Z Y H' r v → Q v H'
theorem pe_ref (Rf : RefOk X.prog X.w Z X.base fR fdR known m) (hK : X.K = Z.K) (hmg : X.mg = Z.mg) (hz : Zc cls d oe) (hf : ∃ vs, oe.data = .fields vs) (hr : Room 3 X.A) (hg : Gl X y) (hm : X.mg y = some (.ref fR)) (hk : PySem.W.keepIn X.K (.ref fR) = true) (hb : L2.Binds X.K fdR ["e"] [])
    (hN : X.N[j]? = some x) (hv : Vis X.env.scope x) (hd : (x == ("__debug__" : Str)) = false := by decide) (hcd : (x == ("__classdict__" : Str)) = false := by decide) (hdb : (y == ("__debug__" : Str)) = false := by decide)
    (he : starEach [.Name x q1] X.env = (false, eval (.Name x q1) X.env) :: starEach [] X.env := by rfl) (hpl : (backTo pos (starEach [] X.env)).any (·.1) = false := by rfl) :
    PE (X.suite a ((a, oe) :: pn)) (.Call (.Name y p) [.Name x q1] [] pos) (fun σ H Q => σ[j]? = some (some (.ref a)) ∧ tRef Z known m cls d H Q) := by
  refine ⟨fun pins s σ H Q I h => ?_⟩
  obtain ⟨hs, Y, c, ns, ds, CE, rfl, hc, hY, tb, hx, r, er, q⟩ := h
  refine wpAny_Call_Name_kw (ld_glob (X := X.suite a ((a, oe) :: pn)) I hg hm ?_ hdb)
  have pa : PA (X.suite a ((a, oe) :: pn)) [.Name x q1] (tCons (tVar j) tNil) := pa_cons (pe_var hN hv hd hcd) pa_nil he
  refine PySem.W.callWith_K (h₀ := X.base) I.ok.mod.kin hk (thn (pa.run pos pins s σ H (fun vs K1 => vs = [.ref a] ∧ K1 = H) I ⟨.ref a, hs, rfl, rfl⟩) fun us s1 ⟨vs, K1, I1, r1, ev, eH⟩ => ⟨I1.kIn, ?_⟩) he hpl
  subst ev
  subst eH
  obtain ⟨u, rfl, ru⟩ := r1.one
  obtain rfl : u = Value.ref a := ru
  have P1 := I1.pin (a, oe) (List.mem_append_left _ (List.mem_cons_self ..))
  have hpin : L2H.PinOk X.stack K1 s1 (a, oe) := ⟨P1.1, P1.2.1, fun hm => (List.mem_cons.mp (I1.stkSub a hm)).elim P1.2.2.1 P1.2.2.2.1, P1.2.2.2.2⟩
  have hb' := hb s1 [Value.ref a] I1.kIn rfl
  have e0 : Env0 X.prog X.w Z.K Z.mg X.base (X.A.mark (some (.ref a))) X.stack s1 K1 := by
    have q := I1.env0
    rw [← hK, ← hmg]
    exact q
  have rm : L2H.RoomH 2 (X.A.mark (some (.ref a))) := by
    have q : L2H.RoomH 2 X.A := L2H.roomH_of (hr.mono (by decide))
    exact ⟨q.dp, q.un⟩
  have run := Rf.run (X.A.mark (some (.ref a))) X.stack s1 K1 ⟨[.ref a], []⟩ Q a oe d Y c ns ds CE rm hpin hz hf e0 hb' hc hY tb hx ⟨r, er, q⟩
  show wpAny (model X.prog X.w) (X.A.mark (some (.ref a))) (call (.ref fR) [.ref a]) _ _ s1
  refine wpAny_call (codeAny_mono run fun r s' hq => ?_)
  cases r with
  | error e =>
    obtain ⟨_, _, _, _, _, _, _, _, _, _, _, _, z⟩ := hq
    exact z.elim
  | ok fl =>
    cases fl with
    | ret u => exact I1.after hq
    | next => exact False.elim hq
    | brk => exact False.elim hq
    | cont => exact False.elim hq
end
end PD

set_option linter.all false
set_option maxRecDepth 100000
set_option maxHeartbeats 2000000
namespace PD
open PySem PySem.Spec PyProof.Rows L2 LamX NdefX

structure ToldS (st : Stmt) : Prop where
  sc : FnScope ["call", "e"] ["call"] (defScope st)
  body : ∃ (j ct : Nat) (q1 q2 q3 q4 q5 q6 q7 q8 q9 q10 q11 q12 : Pos), defBody st =
    [.Try [.Return (some (.Tuple [.Constant (.str "told") j q1, .Call (.Name "call" q2) [] [] q3] ct q4)) q5] [.ExceptHandler (some (.Name "LoftError" q6)) (some "e") [.Return (some (.Call (.Name "_law_refusal" q7) [.Name "e" q8] [] q9)) q10] q11] [] [] q12]
  gL : (defScope st).names.lookup ("LoftError" : Str) = some .globalImplicit
  gR : (defScope st).names.lookup ("_law_refusal" : Str) = some .globalImplicit
  lc : (defScope st).names.lookup ("call" : Str) = some .local
  le : (defScope st).names.lookup ("e" : Str) = some .local
section
variable {X : Cx} {Z : Zt} {Γ : Gm} {params : Arguments} {body : Expr} {scope : Scope} {c P g fR CL : Addr} {stg : Stmt} {fdg fdR : FuncData} {Np fr : List Str} {js : List Nat} {k : Nat} {fb : S → R W} {known : List Str} {m : Str → List Str → List D → Option D} {p lpos pos : Pos}
end
end PD

set_option linter.all false
set_option maxRecDepth 100000
set_option maxHeartbeats 2000000
namespace PD
open PySem PySem.Spec PyProof.Rows L2 LamX NdefX

mutual
theorem toP_noDict : ∀ {d : D} {p : PyData}, d.toP = some p → p.hasDict = false
  | .non, p, h => by simp only [D.toP] at h; cases h; simp [PyData.hasDict]
  | .bl _, p, h => by simp only [D.toP] at h; cases h; simp [PyData.hasDict]
  | .int _, p, h => by simp only [D.toP] at h; cases h; simp [PyData.hasDict]
  | .str _, p, h => by simp only [D.toP] at h; cases h; simp [PyData.hasDict]
  | .tup ds, p, h => by
    simp only [D.toP] at h
    cases e : toPL ds with
    | none => rw [e] at h; cases h
    | some ps => rw [e] at h; cases h; simp only [PyData.hasDict]; exact toPL_noDict e
  | .lst ds, p, h => by
    simp only [D.toP] at h
    cases e : toPL ds with
    | none => rw [e] at h; cases h
    | some ps => rw [e] at h; cases h; simp only [PyData.hasDict]; exact toPL_noDict e
  | .dic _ _, p, h => by simp only [D.toP] at h; cases h
  | .dit _ _, p, h => by simp only [D.toP] at h; cases h
  | .ins _ _ _, p, h => by simp only [D.toP] at h; cases h
  | .fn _, p, h => by simp only [D.toP] at h; cases h
  | .scr _, p, h => by simp only [D.toP] at h; cases h
theorem toPL_noDict : ∀ {ds : List D} {ps : List PyData}, toPL ds = some ps → PyData.hasDictAll ps = false
  | [], ps, h => by simp only [toPL] at h; cases h; simp [PyData.hasDictAll]
  | d :: ds, ps, h => by
    simp only [toPL] at h
    cases e : d.toP with
    | none => rw [e] at h; cases h
    | some p =>
      cases e2 : toPL ds with
      | none => rw [e, e2] at h; cases h
      | some pr => rw [e, e2] at h; cases h; simp [PyData.hasDictAll, toP_noDict e, toPL_noDict e2]
end
def okR (p : PyData) : Bool := p.showable && decide (p.shown.length ≤ sizeLine) && decide (p.depth ≤ 60)
def gRepr : List D → Option D
  | [d] => d.toP.bind fun p => if okR p = true then some (.str p.shown) else none
  | _ => none
section
variable {X : Cx} {Z : Zt}
theorem od_repr (hK : X.K = Z.K) (hg : X.A.guards = some []) (hu : X.A.units + 64 < cLine) : CallR X (.builtin "repr") (rD Z gRepr) := by
  intro pins s σ H xs us Q I r h
  obtain ⟨Y, ds, d, hx, hv, hgr, q⟩ := h
  unfold gRepr at hgr
  split at hgr
  · rename_i d0
    obtain ⟨v, rfl, h1⟩ := vwl1 hv rfl
    cases e1 : d0.toP with
    | none => rw [e1] at hgr; cases hgr
    | some p =>
      rw [e1] at hgr
      simp only [Option.bind_some] at hgr
      split at hgr
      · rename_i ho
        cases hgr
        simp only [okR, Bool.and_eq_true, decide_eq_true_eq] at ho
        obtain ⟨⟨hs, hz⟩, hd⟩ := ho
        obtain ⟨u, rfl, ru⟩ := r.one
        have hdp : Dp X.K H v p := by rw [hK]; exact vw_dp h1 e1
        obtain ⟨as, rd⟩ := Dp.reads I p v u hdp ru
        have fin : ∀ (h' : Heap) (u' : Tok) (tk : Nat), (∀ b o, s.heap.get? b = some o → h'.get? b = some o) → EP X pins σ Q (.str p.shown u') { s with heap := h', toks := tk } :=
          fun h' u' tk k => ⟨.str p.shown, H, I.kept k, ⟨_, rfl⟩, q _ H (Same.refl H) (by simp only [Rep])⟩
        cases rd with
        | none => exact PySem.P.repr_of_none (fin s.heap _ _ fun _ _ z => z)
        | bool b => exact PySem.P.repr_of_bool (by have q := fin s.heap s.toks (s.toks + 1) fun _ _ z => z; simpa only [PyData.shown] using q)
        | int i t => exact PySem.P.repr_of_int (by simpa [PyData.showable] using hs) (by have q := fin s.heap s.toks (s.toks + 1) fun _ _ z => z; simpa only [PyData.shown] using q)
        | str x t => exact PySem.P.repr_of_str (by have q := fin s.heap s.toks (s.toks + 1) fun _ _ z => z; simpa only [PyData.shown] using q) (by simpa only [PyData.shown] using hz)
        | list h1' h2 h3 h4 => exact repr_of_reads' (.list h1' h2 h3 h4) hs (PyData.noDict_hsm (toP_noDict e1)) hg (by omega) (fun _ _ z => z) (fun h' u' tk k => fin h' u' tk k) hz
        | tuple h1' h2 h3 h4 => exact repr_of_reads' (.tuple h1' h2 h3 h4) hs (PyData.noDict_hsm (toP_noDict e1)) hg (by omega) (fun _ _ z => z) (fun h' u' tk k => fin h' u' tk k) hz
        | dict h1' h2 h3 h4 h5 => have w := toP_noDict e1; simp [PyData.hasDict] at w
      · cases hgr
  · cases hgr
end

structure FnG (P : Program) (w : World) (K : PySem.W.Frag) (mg : Str → Option Value) (base : Heap) (CX : CXT) (k : Nat) (f : Addr) (fd : FuncData) (ps : List Str) (sp : Sp) : Prop where
  len : ∀ vs H Q E, sp vs H Q E → vs.length = ps.length
  run : ∀ (A : Around) (outer : List Env) (s : Shared) (H : Hp) (args : Args) (us : List Value) (vs : List V) (Q : VK) (E : XK), Room k A → A.guards = some [] → Env0 P w K mg base A outer s H → BindsTo s fd args (ps.zip us) → Vals vs us → sp vs H Q E →
    codeAny (model P w) A (.call (.ref f) args) (CR CX outer P w H s Q E) s
section
variable {P : Program} {w : World} {Z : Zt} {base : Heap}
theorem FnG.mono {K : PySem.W.Frag} {mg : Str → Option Value} {CX : CXT} {j k : Nat} {f : Addr} {fd : FuncData} {ps : List Str} {sp : Sp} (F : FnG P w K mg base CX j f fd ps sp) (h : j ≤ k) : FnG P w K mg base CX k f fd ps sp :=
  ⟨F.len, fun A outer s H args us vs Q E hr => F.run A outer s H args us vs Q E (hr.mono h)⟩
theorem ps_of_spP {x qual : Str} {st : Stmt} {N : List Str} {body : S → SR} {Y : Addr → Prop} {H : Hp} {E : XK} {vs : List V} {ds : List D} {Q : VK} (hY : ∀ a, Y a → H a ≠ none) (tb : Tabs Z.T H) (r : RepL Z Y H ds vs) (po : goP Z Y H Q E (runP N.length body ds)) :
    tS Z (Gp Y H E) body { nx := fun _ H' => Q .non H', rt := Q } (L2.start N vs) H :=
  ⟨_, _, rl_start (N := N) (E := E) hY tb r, ps_goP (Γ := Gp Y H E) rfl rfl rfl (fun _ _ _ _ z => z) po⟩
theorem goP_of {n : Nat} {g : List D → FR} {vs : List V} {H : Hp} {Q : VK} {E : XK} (h : spP Z n g vs H Q E) : vs.length = n ∧ ∃ (Y : Addr → Prop) (ds : List D), (∀ a, Y a → H a ≠ none) ∧ Tabs Z.T H ∧ RepL Z Y H ds vs ∧ goP Z Y H Q E (g ds) := by
  obtain ⟨hl, Y, ds, h1, h2, h3, h4⟩ := h
  refine ⟨hl, Y, ds, h1, h2, h3, ?_⟩
  unfold goP
  cases e : g ds with
  | ok r => rw [e] at h4; exact h4
  | er c ns ds => rw [e] at h4; exact h4
  | st => rw [e] at h4; exact h4
theorem okPg {x qual : Str} {st : Stmt} {f : Addr} {fd : FuncData} {N ps : List Str} {k : Nat} {body : S → SR} (F : Fun Z.K x qual st f fd) (Sc : FnScope N ps (defScope st))
    (hb : ∀ (cdv : Value) (A : Around) (outer : List Env) (s : Shared) (Y : Addr → Prop) (H : Hp) (E : XK), Room k (A.deeper (envOfC qual (defScope st) s.heap.objs.size f cdv)) → A.guards = some [] →
      PSs (cxOf (L2.CX P w) P w Z.K Z.mg base N qual (defScope st) f cdv A outer s H E) (defBody st) (tS Z (Gp Y H E) body)) :
    FnG P w Z.K Z.mg base (L2.CX P w) (k + 1) f fd ps (spP Z ps.length (runP N.length body)) := by
  refine ⟨fun vs H Q E h => h.1, fun A outer s H args us vs Q E hr hg e0 hbd r h => ?_⟩
  obtain ⟨hl, Y, ds, hY, tb, rr, po⟩ := goP_of h
  obtain ⟨oc, od, kV, doc, pm, an, cdv, ct, osl, rfl, lk, hcd⟩ := F.ex
  exact run_ofS (N := N) lk hcd Sc hr e0 hbd r hl fun hr' => ⟨_, hb cdv A outer s Y H E hr' hg, ps_of_spP (x := x) (qual := qual) (st := st) hY tb rr po⟩
end
section
variable {X : Cx} {Z : Zt} {Γ : Gm} {e : Expr} {es : List Expr} {fs : S → R (List W)} {pos p : Pos} {x : Str} {k n : Nat} {f : Addr} {fd : FuncData} {ps : List Str} {g : List D → FR}
theorem de_callG (F : FnG X.prog X.w X.K X.mg X.base (L2.CX X.prog X.w) k f fd ps (spP Z n g)) (hr : Room k X.A) (hgd : X.A.guards = some []) (hg : Gl X x) (hm : X.mg x = some (.ref f)) (hk : PySem.W.keepIn X.K (.ref f) = true) (hb : L2.Binds X.K fd ps []) (px : PX X Γ) (hE : EConst Γ)
    (ha : PA X (e :: es) (tA Z Γ fs)) (hdb : (x == ("__debug__" : Str)) = false := by decide) (he : starEach (e :: es) X.env = (false, eval e X.env) :: starEach es X.env := by rfl) (hpl : (backTo pos (starEach es X.env)).any (·.1) = false := by rfl) :
    PE X (.Call (.Name x p) (e :: es) [] pos) (tE Z Γ (eFz (rCall n g fs))) := by
  refine de_fz (pe_imp (t := tCall (spP Z n g) [] (fun cls d H => ∀ σ, Γ.E cls d σ H) (tA Z Γ fs)) ⟨fun pins s σ H Q I h => ?_⟩ fun _ _ _ h => call_D hE h)
  refine wpAny_Call_Name_kw (ld_glob I hg hm ?_ hdb)
  refine PySem.W.callWith_K (h₀ := X.base) I.ok.mod.kin hk (thn (ha.run pos pins s σ H _ I h) fun us s1 ⟨vs, H1, I1, r, q⟩ => ⟨I1.kIn, ?_⟩) he hpl
  have q : spP Z n g vs H1 Q fun cls d H => ∀ σ, Γ.E cls d σ H := by rw [← List.append_nil vs]; exact q
  have hl : us.length = ps.length := by rw [← r.length]; exact F.len _ _ _ _ q
  have b := hb s1 us I1.kIn (by rw [List.append_nil]; exact hl)
  rw [List.append_nil] at b
  show wpAny _ _ (call (.ref f) us) _ _ s1
  refine wpAny_call (codeAny_mono (F.run X.A X.stack s1 H1 ⟨us, []⟩ us vs Q _ hr hgd I1.env0 b r q) fun r s' z => ?_)
  cases r with
  | error e => exact px pins σ H1 s1 e s' I1 z
  | ok fl =>
    cases fl with
    | ret u => exact I1.after z
    | next => exact False.elim z
    | brk => exact False.elim z
    | cont => exact False.elim z
end
end PD

set_option linter.all false
set_option maxRecDepth 100000
set_option maxHeartbeats 2000000
namespace PD
open PySem PySem.Spec PyProof.Rows L2 LamX NdefX

theorem law_callG {P : Program} {w : World} {K : PySem.W.Frag} {mg mb : Str → Option Value} {X : CXT} {k : Nat} {fa a : Addr} {cs : List (Addr × Addr)} {fd : FuncData} {x : Str} {sp : Sp} {s1 : Shared} {vs : List Value} {ns : List Int}
    (hK : K.In s1.heap) (hG : s1.heap.Ns mainGlobals mg) (hB : s1.heap.Ns builtinsNs mb) (hBb : ∀ x : Str, x ≠ "__name__" → mb x = bootBuiltins x) (hL : s1.heap.NoLimit) (hg : s1.gens = #[])
    (T : ∀ p ∈ cs, s1.heap.get? p.2 = some { cls := .none, data := .fields #[] }) (Tn : ∀ p ∈ cs, K.lookup p.2 = none) (Cd : ∀ p ∈ cs, PySem.W.CodeHd s1.heap p.1 p.2)
    (hM : ∃ (bm : Addr) (ob : Obj), mg "__builtins__" = some (.ref bm) ∧ bm ≠ builtinsNs ∧ s1.heap.get? bm = some ob ∧ ob.cls = .type "module" ∧ ob.dict = some builtinsNs ∧ ob.data = .plain)
    (ha : s1.heap.get? a = some { cls := .type "list", data := .seq vs.toArray }) (hi : IntsAre vs ns) (hl : ns.length ≤ sizeLine) (hr : Room k callerA)
    (F : ∀ base : Heap, K.In base → base.Ns mainGlobals mg → (∀ p ∈ cs, TabB base mg p.1 p.2) → FnG P w K mg base X k fa fd [x] sp) (hb : ∀ (s : Shared) (u : Value), BindsTo s fd ⟨[u], []⟩ [(x, u)])
    (hsp : ∀ H : Hp, (∀ p ∈ cs, H p.2 = some (.tbl #[])) → SqL K H a (ns.map V.int) → sp [.ref a] H (fun v _ => v = .bl true) fun _ _ _ => False) (hX : ∀ H e s', X [] H s1 (fun _ _ _ => False) e s' → False) :
    codeAny (model P w) callerA (.call (.ref fa) ⟨[.ref a], []⟩) (fun r s' => r = .ok (.ret (.bool true)) ∧ OldK s1.heap s'.heap ∧ s'.os = s1.os ∧ AllBare s'.gens) s1 := by
  let tb : List Addr := cs.map (·.2)
  have mt : ∀ p ∈ cs, p.2 ∈ tb := fun p hp => List.mem_map.mpr ⟨p, hp, rfl⟩
  have isT : ∀ b ∈ tb, s1.heap.get? b = some { cls := .none, data := .fields #[] } := fun b h => by
    obtain ⟨p, hp, rfl⟩ := List.mem_map.mp h
    exact T p hp
  have na : a ∉ tb := fun h => by
    have q := ha.symm.trans (isT a h)
    have q2 : Data.seq vs.toArray _ = Data.fields #[] := congrArg Obj.data (Option.some.inj q)
    cases q2
  -- any abstract heap that tracks the tables and perhaps the script
  have core : ∀ H : Hp, (∀ p ∈ cs, H p.2 = some (.tbl #[])) → (∀ b, H b = none ∨ b ∈ tb ∨ (b = a ∧ ∃ o xs, H b = some (.frz o (.lst xs)))) → SqL K H a (ns.map V.int) → HOk P w H s1.heap → (H a ≠ none → K.lookup a = none) →
      codeAny (model P w) callerA (.call (.ref fa) ⟨[.ref a], []⟩) (fun r s' => r = .ok (.ret (.bool true)) ∧ OldK s1.heap s'.heap ∧ s'.os = s1.os ∧ AllBare s'.gens) s1 := by
    intro H hT hO hS ok hA
    have free : ∀ {b : Addr} {o : Obj}, s1.heap.get? b = some o → (∀ vs n, o.data ≠ .seq vs n) → o.data ≠ .fields #[] → H b = none := fun {b o} e h1 h2 => by
      rcases hO b with z | z | ⟨z, _⟩
      · exact z
      · rw [isT b z] at e
        cases e
        exact absurd rfl h2
      · rw [z, ha] at e
        cases e
        exact absurd rfl (h1 _ _)
    have ns_ : ∀ {b : Addr} {m : Str → Option Value}, s1.heap.Ns b m → (hidT s1.heap H).Ns b m := fun {b m} ⟨o, es, ep, e, d, r⟩ =>
      ⟨o, es, ep, hidT_get e (free e (fun vs n z => by rw [d] at z; cases z) fun z => by rw [d] at z; cases z), d, r⟩
    have kin : K.In (hidT s1.heap H) := fun b o e => hidT_get (hK b o e) (by
      rcases hO b with z | z | ⟨z, z2⟩
      · exact z
      · obtain ⟨p, hp, rfl⟩ := List.mem_map.mp z
        rw [Tn p hp] at e; cases e
      · obtain ⟨_, _, z3⟩ := z2
        rw [z] at e z3
        rw [hA (by rw [z3]; simp)] at e; cases e)
    have md : L2.Mod K mg (hidT s1.heap H) := ⟨kin, ns_ hG, ⟨mb, ns_ hB, hBb⟩, let ⟨mc, h1, h2⟩ := hL; ⟨mc, ns_ h1, h2⟩⟩
    have TB : ∀ p ∈ cs, TabB (hidT s1.heap H) mg p.1 p.2 := fun p hp => by
      refine ⟨?_, ?_, fun z => ?_⟩
      · obtain ⟨o, us, file, tf, flags, tg, inF, text, tt, c1, c2, c3, c4, c5, c6, c7, c8, c9, c10⟩ := Cd p hp
        refine ⟨o, us, file, tf, flags, tg, inF, text, tt, hidT_get c1 (free c1 (fun vs n z => ?_) fun z => ?_), c2, c3, c4, c5, c6, c7, c8, c9, c10⟩
        · rw [c3] at z; cases z
        · rw [c3] at z
          cases z
          simp at c4
      · obtain ⟨bm, ob, m1, m2, m3, m4, m5, m6⟩ := hM
        refine ⟨bm, ob, m1, m2, fun q => ?_, fun q => ?_, hidT_get m3 (free m3 (fun vs n z => ?_) fun z => ?_), m4, m5, m6⟩
        · obtain ⟨o, es, ep, e, d, _⟩ := hG
          rw [q, e] at m3
          cases m3
          rw [d] at m6; cases m6
        · rw [q, T p hp] at m3
          cases m3
          cases m6
        · rw [m6] at z; cases z
        · rw [m6] at z; cases z
      · obtain ⟨o, es, ep, e, d, _⟩ := hG
        rw [z, T p hp] at e
        cases e
        cases d
    have e0 : Env0 P w K mg (hidT s1.heap H) callerA [] s1 H := ⟨rfl, md, fun b o e => of_hidT e, Nat.le_of_eq (hidT_size _ _), trivial, fun b h => absurd (show b ∈ ([] : List Addr) from h) (by simp), ok, .of_eq hg⟩
    refine codeAny_mono ((F _ kin (ns_ hG) TB).run callerA [] s1 H ⟨[.ref a], []⟩ [.ref a] [.ref a] _ _ hr rfl e0 (hb s1 (.ref a)) (.cons rfl .nil) (hsp H hT hS)) fun r s' h => ?_
    cases r with
    | error e => exact (hX H e s' h).elim
    | ok fl =>
      cases fl with
      | next => exact False.elim h
      | brk => exact False.elim h
      | cont => exact False.elim h
      | ret u =>
        obtain ⟨v, H', os, bare, un, ok', rv, q⟩ := h
        obtain rfl : v = .bl true := q
        obtain rfl : u = Value.bool true := rv
        have nin : ∀ b : Addr, b ∉ ([] : List Addr) := fun b => by simp
        have old : ∀ b o, b ∉ tb → s1.heap.get? b = some o → s'.heap.get? b = some o := fun b o nb e => by
          rcases hO b with z | z | ⟨_, ob, xs, z⟩
          · exact un.keep b o e z (nin b) (nin b)
          · exact absurd z nb
          · obtain ⟨e1, _⟩ := ok b _ z
            obtain ⟨e2, _⟩ := ok' b _ (un.frzs b ob _ z)
            exact e2.trans (e1.symm.trans e)
        have more : ∀ p ∈ cs, ∃ m : Array Value, s'.heap.get? p.2 = some { cls := .none, data := .fields m } := fun p hp => by
          obtain ⟨m, z⟩ := un.tbls p.2 #[] (hT p hp)
          exact ⟨_, ok' p.2 _ z⟩
        refine ⟨rfl, ⟨fun b o e => ?_, fun b o e => ?_⟩, os, bare⟩
        · by_cases h : b ∈ tb
          · obtain ⟨p, hp, rfl⟩ := List.mem_map.mp h
            obtain ⟨m, hm⟩ := more p hp
            rw [T p hp] at e
            cases e
            exact .inr (.inl ⟨((Cd p hp).tab (T p hp)).isCodeTable, rfl, #[], m, rfl, by rw [Array.empty_append]; exact hm⟩)
          · exact .inl (old b o h e)
        · by_cases h : b ∈ tb
          · obtain ⟨p, hp, rfl⟩ := List.mem_map.mp h
            obtain ⟨m, hm⟩ := more p hp
            exact ⟨_, hm⟩
          · exact ⟨o, old b o h e⟩
  have rv := vals_ints hi
  cases hk : K.lookup a with
  | some o =>
    have e := hK a o hk
    rw [ha] at e
    cases e
    let H : Hp := fun b => if b ∈ tb then some (.tbl #[]) else none
    have yes : ∀ b, b ∈ tb → H b = some (.tbl #[]) := fun b h => if_pos h
    have no : ∀ b, b ∉ tb → H b = none := fun b h => if_neg h
    refine core H (fun p hp => yes _ (mt p hp)) (fun b => ?_) (.inr ⟨_, vs.toArray, _, hk, rfl, rfl, rfl, by rw [List.size_toArray, hi.length]; exact hl, by simpa using rv⟩) (fun b u z => ?_) fun z => absurd (no a na) z
    · by_cases h : b ∈ tb
      · exact .inr (.inl h)
      · exact .inl (no b h)
    · by_cases h : b ∈ tb
      · rw [yes b h] at z
        cases z
        exact isT b h
      · rw [no b h] at z; cases z
  | none =>
    let H : Hp := fun b => if b = a then some (.frz { cls := .type "list", data := .seq vs.toArray } (.lst (ns.map V.int))) else if b ∈ tb then some (.tbl #[]) else none
    have at_ : H a = some (.frz { cls := .type "list", data := .seq vs.toArray } (.lst (ns.map V.int))) := if_pos rfl
    have yes : ∀ b, b ∈ tb → H b = some (.tbl #[]) := fun b h => (if_neg fun z => na (by rw [← z]; exact h)).trans (if_pos h)
    have no : ∀ b, b ≠ a → b ∉ tb → H b = none := fun b h1 h2 => (if_neg h1).trans (if_neg h2)
    refine core H (fun p hp => yes _ (mt p hp)) (fun b => ?_) (.inl (.inr ⟨_, at_⟩)) (fun b u z => ?_) fun _ => hk
    · by_cases h1 : b = a
      · exact .inr (.inr ⟨h1, _, _, by rw [h1]; exact at_⟩)
      · by_cases h2 : b ∈ tb
        · exact .inr (.inl h2)
        · exact .inl (no b h1 h2)
    · by_cases h1 : b = a
      · rw [h1, at_] at z
        cases z
        rw [h1]
        exact ⟨ha, by rw [List.length_map]; exact hl, vs, _, rv, ha⟩
      · by_cases h2 : b ∈ tb
        · rw [yes b h2] at z
          cases z
          exact isT b h2
        · rw [no b h1 h2] at z; cases z
def LawAtG (l : PySem.W.OpenLaw) (w : World) (K : PySem.W.Frag) (X : CXT) (k n : Nat) (x : Str) (mg : Str → Option Value) (fa : Addr) (h : Heap) : Prop :=
  ∃ (fd : FuncData) (cs : List (Addr × Addr)) (sp : Sp), (∀ p ∈ cs, h.get? p.2 = some { cls := .none, data := .fields #[] }) ∧ (∀ p ∈ cs, K.lookup p.2 = none) ∧ (∀ p ∈ cs, PySem.W.CodeHd h p.1 p.2) ∧ (∀ (s : Shared) (u : Value), BindsTo s fd ⟨[u], []⟩ [(x, u)]) ∧
    (∀ (H : Hp) (a : Addr) (ns : List Int), ns.length ≤ n → (∀ z ∈ ns, Builtin.Int.intBits z ≤ 1048576) → (∀ p ∈ cs, H p.2 = some (.tbl #[])) → SqL K H a (ns.map V.int) → sp [.ref a] H (fun v _ => v = .bl true) fun _ _ _ => False) ∧
    ∀ base : Heap, K.In base → base.Ns mainGlobals mg → (∀ p ∈ cs, TabB base mg p.1 p.2) → FnG l.prog w K mg base X k fa fd [x] sp
theorem walk_ofG {l : PySem.W.OpenLaw} {n k : Nat} {q : Program} {loose : List Str} {XP : (Str → Option Value) → Heap → Prop} {YP : World → Heap → Prop} {d : DefRec} {K : Params → PySem.W.Frag} {CX : World → CXT} {x : Str}
    (hn : l.most = some n) (hn2 : n ≤ sizeLine) (hdf : d.params.defaults = []) (hr : Room k callerA) (hY : ∀ (w : World) (h : Heap), YP w h → (K w.params).In h)
    (F : ∀ (w : World) (mg : Str → Option Value) (fa : Addr) (h : Heap), YP w h → (K w.params).In h → h.Ns mainGlobals mg → mg d.name = some (.ref fa) → LawAtG l w (K w.params) (CX w) k n x mg fa h)
    (hCX : ∀ (w : World) (H : Hp) (s : Shared) (e : Value) (s' : Shared), CX w [] H s (fun _ _ _ => False) e s' → False) :
    PySem.W.WalkO q loose XP YP l.row.toRowW d [] (fun f vs => PySem.call f vs) := by
  refine Att.attach_callB hn hdf fun w s₀ s₁ mg mb fa o pm cd doc a vs ns G Y ho hd hcd hmg hobj hints hlen hbits hg => ?_
  obtain ⟨fd, cs, sp, h1, h2, h3, h4, h5, h6⟩ := F w mg fa _ Y (hY w _ Y) G.T.g hmg
  exact law_callG (hY w _ Y) G.T.g G.T.b G.T.builtins G.T.nolimit hg h1 h2 h3 G.T.bmain hobj hints (Nat.le_trans hlen hn2) hr h6 h4 (fun H p q => h5 H a ns hlen hbits p q) fun H e s' => hCX w H s₁ e s'
end PD

set_option linter.all false
set_option maxRecDepth 100000
set_option maxHeartbeats 2000000
namespace PD
open PySem PySem.Spec PyProof.Rows L2 LamX NdefX

theorem passes_no {X : Cx} : Passes (L2.CX X.prog X.w) X fun _ _ _ => False := fun _ _ _ _ _ _ _ c => by
  obtain ⟨_, _, _, _, _, _, _, _, _, _, _, _, z⟩ := c
  exact z.elim
section
variable {P : Program} {w : World} {Z : Zt} {base : Heap}
open Classical in
theorem RefOk.known {f : Addr} {fd : FuncData} {known : List Str} {m : Str → List Str → List D → Option D} (R : RefOk P w Z base f fd known m) : RefOk P w Z base f fd known fun c ns ds => if c ∈ known then m c ns ds else none := by
  refine ⟨fun A outer s H args Q a oe d Y c ns ds CE hr hp hz hf e0 hb hc hY tb hx po => ?_⟩
  obtain ⟨r, er, q⟩ := po
  rw [if_pos hc] at er
  exact R.run A outer s H args Q a oe d Y c ns ds CE hr hp hz hf e0 hb hc hY tb hx ⟨r, er, q⟩
end
def isE (c n : Str) : Bool := decide (c = n) || decide (n = "ValueError")
theorem huH64 {k : Nat} {A : Around} (r : L2H.RoomH k A) : A.units + 64 < cLine := by have := r.un; omega
theorem huH65 {k : Nat} {A : Around} (r : L2H.RoomH k A) : A.units + 65 < cLine := by have := r.un; omega
theorem huH80 {k : Nat} {A : Around} (r : L2H.RoomH k A) : A.units + 80 < cLine := by have := r.un; omega
theorem huH1 {k : Nat} {A : Around} (r : L2H.RoomH k A) : A.units + 1 < cLine := by have := r.un; omega
theorem oex_mk {K : PySem.W.Frag} {C : Addr} {nm q : Str} {N : Addr} {bs bm : List Value} {sn : List Str} {sub : List Value} {ab : Bool} {col : Option Bool} {dd : Option Addr} {k0 k1 k2 k3 k5 : Option Value}
    (l : K.lookup C = some (excClassObj nm q C N bs bm true sn sub ab col dd k0 k1 k2 k3 k5 "ValueError.__new__")) (r : PySem.HandSPX.refsVE bm = true) (sa : PySem.W.findIn K (.ref C) "__setattr__" = some (some (.builtin "object.__setattr__")))
    (ex : PySem.W.subIn K (.ref C) (.type "BaseException") = some true) (ty : PySem.W.typeIn K (.ref C) = some (.type "type")) (kc : PySem.W.keepIn K (.ref C) = true) : OexC K C :=
  ⟨⟨nm, q, N, bs, bm, sn, sub, ab, col, dd, k0, k1, k2, k3, k5, l, r⟩, sa, ex, ty, kc⟩
theorem excls_mk {K : PySem.W.Frag} {C : Addr} {cd : ClassData} (T : OexC K C) (c : PySem.W.clsIn K C = some cd) (me : PySem.W.mroIn K C (.ref C) = some true) (up : PySem.W.ks_superIn K C C "__init__" = some (some (.builtin "ValueError.__init__")))
    (ve : PySem.W.subIn K (.ref C) (.type "ValueError") = some true) (np : PySem.W.nsIn K cStatics "thirdparty.any" = some none) : ExCls K C := ⟨T, ⟨cd, c⟩, me, up, ve, np⟩
theorem initF_mk {P : Program} {K : PySem.W.Frag} {C f : Addr} {qual : Str} {st : Stmt} {oc : Value} {od : Option Addr} {osl : Array (Option Value)} {kV doc pm : Value} {an : Option Addr} {ct : Value} {cc cda : Addr} {cl : Value} {cld : Option Addr} {csl : Array (Option Value)} {ccl : Value} {cdd : Option Addr}
    {vs : Array Value} {ccs : Array (Option Value)} {file : Str} {tf : Tok} (l : K.lookup f = some ⟨oc, od, .func (PySem.W.ksFn "__init__" qual (defArgs st) (defBody st) (defScope st) .none kV doc pm an (.ref cda) ct cc), osl⟩) (e : PySem.W.codeIn K (.ref cda) qual = true)
    (lc : K.lookup cc = some ⟨cl, cld, .cell (some (.ref C)), csl⟩) (ld : K.lookup cda = some ⟨ccl, cdd, .fields vs, ccs⟩) (hv : vs[2]? = some (.str file tf)) (hf : ((P.main.file : Str) == file) = true) (tp : (P.main.scope.names.lookup ("super" : Str)).isSome = false) :
    InitF P K C f qual st (PySem.W.ksFn "__init__" qual (defArgs st) (defBody st) (defScope st) .none kV doc pm an (.ref cda) ct cc) := ⟨⟨oc, od, osl, kV, doc, pm, an, ct, cc, cda, cl, cld, csl, ccl, cdd, vs, ccs, file, tf, rfl, l, e, lc, ld, hv, hf⟩, tp⟩
theorem excC_mk {K : PySem.W.Frag} {C : Addr} (hg : PySem.W.findIn K (.ref C) "__getattribute__" = some (some (.builtin "BaseException.__getattribute__"))) (hk : PySem.W.findIn K (.ref C) "__getattr__" = some none) (hs : PySem.W.subIn K (.ref C) (.type "BaseException") = some true)
    (hd : PySem.W.hasDictIn K C = true) (ha : PySem.W.findIn K (.ref C) "__class__" = some (some (.builtin "object.__class__"))) (hn : PySem.W.specialIn K (.builtin "object.__class__") "__get__" = some (some (.builtin "getset_descriptor.__get__"))) (ht : PySem.W.takesIn K (.builtin "object.__class__") = some true)
    (hm : PySem.W.mroIn K C (.type "object") = some true) : ExcC K C ∧ XfC K C := ⟨⟨hg, hk, hs, hd, ha, hn, ht, hm⟩, ⟨hg, hk, hs, hd⟩⟩
end PD

set_option linter.all false
set_option maxRecDepth 100000
set_option maxHeartbeats 2000000
namespace PD
open PySem PySem.Spec PyProof.Rows L2 LamX NdefX
theorem RepL.snoc {Z : Zt} {Y : Addr → Prop} {H : Hp} : ∀ {r : List D} {d : D} {vs : List V}, RepL Z Y H (r ++ [d]) vs → ∃ us v, vs = us ++ [v] ∧ RepL Z Y H r us ∧ Rep Z Y H d v
  | [], d, vs, h => by
    simp only [List.nil_append, RepL] at h
    obtain ⟨v, vr, rfl, h1, rfl⟩ := h
    exact ⟨[], v, rfl, RepL.nil, h1⟩
  | a :: r, d, vs, h => by
    simp only [List.cons_append, RepL] at h
    obtain ⟨v, vr, rfl, h1, h2⟩ := h
    obtain ⟨us, u, rfl, h3, h4⟩ := RepL.snoc h2
    refine ⟨v :: us, u, rfl, ?_, h4⟩
    simp only [RepL]
    exact ⟨v, us, rfl, h1, h3⟩
section
variable {X : Cx} {Z : Zt} {Γ : Gm} {x : Str} {p1 ap cpos : Pos}
end
section
variable {X : Cx} {Z : Zt} {Γ : Gm} {pos p : Pos} {x : Str} {k : Nat} {f : Addr} {fd : FuncData} {ps : List Str} {g : List D → FR}
end
end PD

set_option linter.all false
set_option maxRecDepth 100000
set_option maxHeartbeats 2000000
namespace PD
open PySem PySem.Spec PyProof.Rows L2 LamX NdefX

section
variable {X : Cx} {pins : List (Addr × Obj)} {σ : L2.St} {H : Hp} {s : Shared}
end
section
variable {X : Cx} {f : Addr} {F : NF} {b : Expr} {Np ps fr : List Str} {ws : List (Option V)} {k i : Nat} {tb : TE} {a : Str} {p1 p2 : Pos} {E : XK} {Wo : WX} {t0 : Addr} {v0 : Int} {y0 : Str}
end

structure LamTD (Z : Zt) (X : Cx) (params : Arguments) (scope : Scope) (c P : Addr) : Prop where
  tb : TabB X.base X.mg c P
  code : X.env.code = .ref c
  mem : (P, X.env.qual ++ "<lambda>") ∈ Z.T
  uni : ∀ p ∈ Z.T, p.1 = P → p.2 = X.env.qual ++ "<lambda>"
  fr : ∀ y ∈ scope.names, y.2 = .free → X.env.scope.names.lookup y.1 = some .cell ∨ X.env.scope.names.lookup y.1 = some .free
section
variable {X : Cx} {Z : Zt} {Γ : Gm} {params : Arguments} {body : Expr} {scope : Scope} {c P g fR CL : Addr} {stg : Stmt} {fdg fdR : FuncData} {Np fr : List Str} {js : List Nat} {k : Nat} {fb : S → R W} {known : List Str} {m : Str → List Str → List D → Option D} {p lpos dpos pos : Pos} {v0 : Int} {jd : Nat} {y0 : Str}
end
end PD

set_option linter.all false
set_option maxRecDepth 100000
set_option maxHeartbeats 2000000
namespace PD
open PySem PySem.Spec PyProof.Rows L2 LamX NdefX
theorem exo_obj {P : Program} {w : World} {H : Hp} {h : Heap} {e C : Addr} {d : Option Addr} (hok : HOk P w H h) (he : H e = some (exo e C d)) : ∃ (oe : Obj) (vs : Array Value), h.get? e = some oe ∧ Zc (.ref C) d oe ∧ oe.data = .fields vs := by
  obtain ⟨t1, ho⟩ := exo_at hok he
  exact ⟨_, _, ho, ⟨rfl, rfl⟩, rfl⟩
def rIsO (K : PySem.W.Frag) : List V → Hp → VK → Prop := fun xs H Q => ∃ (a CE : Addr) (d : Option Addr) (c : V) (cv : Value) (b : Bool), xs = [.ref a, c] ∧ (∀ u, L2.RelV c u → u = cv) ∧ ExcC K CE ∧ PySem.W.kitOne K (.ref CE) cv = some b ∧
  H a = some (exo a CE d) ∧ (∀ dd, d = some dd → ∃ fs, H dd = some (.xd fs)) ∧ Q (.bl b) H
section
variable {X : Cx} {Z : Zt} {Γ : Gm} {a CE : Addr} {d : Option Addr} {pos p p1 p2 : Pos} {x T f : Str}
theorem call_isO : CallR X (.builtin "isinstance") (rIsO X.K) := by
  intro pins s σ H xs us Q I r hh
  obtain ⟨a, CE, d, c, cv, b, rfl, hcv, C, e, ha, hdd, q⟩ := hh
  cases r with
  | cons rx rr =>
    cases rr with
    | cons rt rr =>
      cases rr
      cases rx
      have ec := hcv _ rt
      subst ec
      obtain ⟨oe, vs, hget, hz, hv⟩ := exo_obj I.hok ha
      have hcl : (PySem.W.clsIn X.K CE).isSome = true := by
        obtain ⟨cd, hc, _⟩ := PySem.W.any_some C.hd
        rw [hc]; rfl
      obtain ⟨od, J⟩ : ∃ od, PySem.W.InstAt s.heap a oe CE od := by
        obtain ⟨oc, odc, oda, osl⟩ := oe
        obtain ⟨h1, h2⟩ := hz
        dsimp only at h1 h2 hv
        subst h1 h2 hv
        cases odc with
        | none => exact ⟨none, hget, rfl, rfl, trivial⟩
        | some dd =>
          obtain ⟨fs, hfs⟩ := hdd dd rfl
          obtain ⟨mA, ⟨od, es, ep, ho, _⟩, _⟩ := (show ObjOk X.prog X.w H s.heap dd (.xd fs) from I.hok dd _ hfs)
          exact ⟨some od, hget, rfl, rfl, ho⟩
      exact PySem.W.kia_one (PySem.W.kitx_exc hcl C.hg C.hk C.hs C.ha C.hn C.ht C.hm) I.kIn J e (fun z => nomatch z) fun tk => ⟨.bl b, H, I.kept (t' := tk) fun _ _ z => z, rfl, q⟩
theorem pe_atO {e : Expr} {te : TE} (he : PE X e te) (T : XfC X.K CE) (hno : PySem.W.findIn X.K (.ref CE) f = some none) (hbase : attributeBase e f X.env (eval e X.env) = eval e X.env := by rfl) :
    PE X (.Attribute e f pos) (fun σ H Q => te σ H fun x H1 => ∃ (a dd : Addr) (fs : List (Str × V)) (v : V), x = .ref a ∧ H1 a = some (exo a CE (some dd)) ∧ H1 dd = some (.xd fs) ∧ fs.lookup f = some v ∧ Q v H1) := by
  refine ⟨fun pins s σ H Q I z => ?_⟩
  refine attr_of hbase (thn (he.run pins s σ H _ I z) fun u s1 ⟨w, K1, I1, r1, q1⟩ => ?_)
  obtain ⟨a, dd, fs, v, rfl, ha, hx, hv1, q⟩ := q1
  obtain rfl : u = Value.ref a := r1
  obtain ⟨oe, ovs, hget, hz, hov⟩ := exo_obj I1.hok ha
  obtain ⟨mA, hns, hr⟩ := (show ObjOk X.prog X.w K1 s1.heap dd (.xd fs) from I1.hok dd _ hx)
  obtain ⟨od, ho, hlk⟩ := lookIn_ns hns
  obtain ⟨u', hu, ru⟩ := RelO.some_of (v := v) (o := mA f) (by rw [← hv1]; exact hr f)
  have J : PySem.W.InstAt s1.heap a oe CE (some od) := ⟨hget, hz.1, by unfold PySem.W.notCls; rw [hov] <;> rfl, by rw [hz.2]; exact ho⟩
  exact HandSPX.exc_get I1.kIn J T.ga T.gg T.exC (PySem.W.findObj_own T.hdC hno rfl (by rw [hlk, hu])) (handed_of ru) ⟨v, K1, I1.tok _, ru, q⟩
end
theorem fw_del {Z : Zt} {Y : Addr → Prop} {H : Hp} {a : Addr} (hY : Y a) (nt : ∀ ps, H a ≠ some (.tbl ps)) (nc : ∀ q, H a ≠ some (CodeO a q)) : Fw Z Y H (fun b => Y b ∧ b ≠ a) (delH H a) := by
  refine ⟨fun b o h n _ => ?_, fun b ps h => ?_, fun b h => .inl h.1, fun t => ?_⟩
  · have : b ≠ a := fun e => by subst e; exact n hY
    rw [delH_ne this]; exact h
  · have : b ≠ a := fun e => by subst e; exact nt ps h
    exact ⟨ps, by rw [delH_ne this]; exact h⟩
  · intro q hq
    obtain ⟨ps, h1, h2, h3⟩ := t q hq
    have n1 : q.1 ≠ a := fun e => by rw [e] at h1; exact nt ps h1
    refine ⟨ps, by rw [delH_ne n1]; exact h1, h2, fun pos cv hc => ?_⟩
    obtain ⟨c, e1, e2⟩ := h3 pos cv hc
    have n2 : c ≠ a := fun e => by rw [e] at e2; exact nc _ e2
    exact ⟨c, e1, by rw [delH_ne n2]; exact e2⟩
end PD

set_option linter.all false
set_option maxRecDepth 100000
set_option maxHeartbeats 2000000
namespace PD
open PySem PySem.Spec PyProof.Rows L2 LamX NdefX
section
variable {X : Cx} {pins : List (Addr × Obj)} {σ σ' : L2.St} {H K : Hp} {s s' : Shared} {a C : Addr} {d : Option Addr}
theorem Inv.notFs (I : Inv X pins σ H s) {o : HO} (ha : H a = some o) : a ∉ X.fs := fun h => by
  obtain ⟨ob, ho⟩ : ∃ ob, X.s_0.heap.get? a = some ob := let ⟨_, o, ho, _⟩ := I.ok.funs.mem h; ⟨o, ho⟩
  have := I.base.free a ob ho (I.ok.frf a h) fun z => I.ok.exfs a z h
  rw [ha] at this; cases this
theorem Inv.still (I : Inv X pins σ H s) (ha : H a = some (exo a C d)) : ∃ (oe : Obj) (t1 : Addr), oe = { cls := .ref C, dict := d, data := .fields #[.ref t1, .none, .none, .none, .bool false, .none] } ∧ s.heap.get? a = some oe ∧ Inv X ((a, oe) :: pins) σ (delH H a) s := by
  obtain ⟨t1, ho⟩ := exo_at I.hok ha
  refine ⟨_, t1, rfl, ho, ?_⟩
  have ne : ∀ {b : Addr} {o : HO}, H b = some o → o ≠ exo a C d → b ≠ a := fun e n z => by subst z; rw [ha] at e; cases e; exact n rfl
  have nn : ∀ {b : Addr}, H b = none → delH H a b = none := fun {b} e => by
    unfold delH
    split
    · rfl
    · exact e
  refine ⟨I.ok, I.os, I.bare, ⟨I.base.keep, I.base.slot, fun b o h1 h2 h3 => nn (I.base.free b o h1 h2 h3), I.base.there, fun b xs h => ?_, fun b o u h => ?_, fun b ps h => ?_⟩, I.loc, I.cell, nn I.free, fun x c h => nn (I.freeC x c h), fun p hp => ?_, fun b o h => ?_, I.len⟩
  · have q := I.base.tups b xs h
    rw [delH_ne (ne q fun z => by cases z)]; exact q
  · have q := I.base.frzs b o u h
    rw [delH_ne (ne q fun z => by cases z)]; exact q
  · obtain ⟨m, q⟩ := I.base.tbls b ps h
    exact ⟨m, by rw [delH_ne (ne q fun z => by cases z)]; exact q⟩
  · have old : p ∈ X.pn ++ pins → _ := fun h => let ⟨q1, q2, q3⟩ := I.pin p h; (show s.heap.get? p.1 = some p.2 ∧ delH H a p.1 = none ∧ p.1 ≠ X.env.locals ∧ p.1 ∉ X.fs ∧ ∀ v, p.2.data ≠ Data.cell v from ⟨q1, nn q2, q3⟩)
    rcases List.mem_append.1 hp with h | h
    · exact old (List.mem_append_left _ h)
    · rcases List.mem_cons.1 h with rfl | h
      · have nl : a ≠ X.env.locals := fun z => by
          have q := I.free
          rw [← z, ha] at q
          cases q
        exact ⟨ho, delH_same, nl, Inv.notFs I ha, fun v z => by cases z⟩
      · exact old (List.mem_append_right _ h)
  · by_cases hb : b = a
    · subst hb; rw [delH_same] at h; cases h
    · rw [delH_ne hb] at h
      exact (I.hok b o h).stay (fun c v _ q => q) (fun c q => by rw [delH_ne (ne q fun z => by cases z)]; exact q) fun c xs q => by rw [delH_ne (ne q fun z => by cases z)]; exact q
theorem Inv.track {oe : Obj} {t1 : Addr} (I : Inv X pins σ H s) (ha : H a = some (exo a C d)) (eo : oe = { cls := .ref C, dict := d, data := .fields #[.ref t1, .none, .none, .none, .bool false, .none] }) (J : Inv X ((a, oe) :: pins) σ' K s') : Inv X pins σ' (upd K a (exo a C d)) s' := by
  obtain ⟨p1, p2, p3, p4, _⟩ := J.pin (a, oe) (List.mem_append_right _ List.mem_cons_self)
  dsimp only at p1 p2 p3 p4
  have ne : ∀ {b : Addr} {o : HO}, K b = some o → b ≠ a := fun e z => by subst z; rw [p2] at e; cases e
  have n0 : ∀ b o, X.s_0.heap.get? b = some o → X.H_0 b = none → b ∉ X.ex → b ≠ a := fun b o h1 h2 h3 z => by
    have q := I.base.free b o h1 h2 h3
    rw [z, ha] at q; cases q
  refine ⟨J.ok, J.os, J.bare, ⟨J.base.keep, J.base.slot, fun b o h1 h2 h3 => ?_, J.base.there, fun b xs h => ?_, fun b o u h => ?_, fun b ps h => ?_⟩, J.loc, J.cell, ?_, fun x c h => ?_, fun p hp => ?_, fun b o h => ?_, J.len⟩
  · rw [upd_ne (n0 b o h1 h2 h3)]; exact J.base.free b o h1 h2 h3
  · have q := J.base.tups b xs h
    rw [upd_ne (ne q)]; exact q
  · have q := J.base.frzs b o u h
    rw [upd_ne (ne q)]; exact q
  · obtain ⟨m, q⟩ := J.base.tbls b ps h
    exact ⟨m, by rw [upd_ne (ne q)]; exact q⟩
  · rw [upd_ne (Ne.symm p3)]; exact J.free
  · have : c ≠ a := fun z => by
      obtain ⟨v, o, ho, hd⟩ := J.cell x c h
      rw [z, p1] at ho; cases ho
      rw [eo] at hd; cases hd
    rw [upd_ne this]; exact J.freeC x c h
  · have old := I.pin p hp
    have n : p.1 ≠ a := fun z => by
      have q := old.2.1
      rw [z, ha] at q; cases q
    obtain ⟨q1, q2, q3⟩ := J.pin p ((List.mem_append.1 hp).elim (fun h => List.mem_append_left _ h) fun h => List.mem_append_right _ (List.mem_cons_of_mem _ h))
    exact ⟨q1, by rw [upd_ne n]; exact q2, q3⟩
  · by_cases hb : b = a
    · subst hb
      rw [upd_same] at h
      cases h
      exact exo_ok (t1 := t1) (by rw [p1, eo])
    · rw [upd_ne hb] at h
      exact (J.hok b o h).stay (fun c v _ q => q) (fun c q => by rw [upd_ne (ne q)]; exact q) fun c xs q => by rw [upd_ne (ne q)]; exact q
end
section
variable {X : Cx} {a fR : Addr} {fdR : FuncData} {known : List Str} {m : Str → List Str → List D → Option D} {Z : Zt} {j : Nat} {x y : Str} {p q1 pos : Pos}
def tRefO (Z : Zt) (known : List Str) (m : Str → List Str → List D → Option D) (a : Addr) (H : Hp) (Q : VK) : Prop :=
  ∃ (CE : Addr) (d : Option Addr) (Y : Addr → Prop) (c : Str) (ns : List Str) (ds : List D), H a = some (exo a CE d) ∧ Y a ∧ c ∈ known ∧ (∀ x, Y x → H x ≠ none) ∧ Tabs Z.T H ∧ d ≠ some a ∧
    (Z.mg c = some (.ref CE) ∧ ((ns = [] ∧ d = none) ∨ ∃ dd vs, d = some dd ∧ ns.length = vs.length ∧ H dd = some (.xd (ns.zip vs)) ∧ RepL Z Y H ds vs)) ∧
    ∃ r, m c ns ds = some r ∧ ∀ v H', Kp Z H H' → Rep Z (fun b => Y b ∧ b ≠ a) H' r v → Q v H'
theorem pe_refO (Rf : RefOk X.prog X.w Z X.base fR fdR known m) (hK : X.K = Z.K) (hmg : X.mg = Z.mg) (hr : Room 3 X.A) (hg : Gl X y) (hm : X.mg y = some (.ref fR)) (hk : PySem.W.keepIn X.K (.ref fR) = true) (hb : L2.Binds X.K fdR ["e"] [])
    (hN : X.N[j]? = some x) (hv : Vis X.env.scope x) (hd : (x == ("__debug__" : Str)) = false := by decide) (hcd : (x == ("__classdict__" : Str)) = false := by decide) (hdb : (y == ("__debug__" : Str)) = false := by decide)
    (he : starEach [.Name x q1] X.env = (false, eval (.Name x q1) X.env) :: starEach [] X.env := by rfl) (hpl : (backTo pos (starEach [] X.env)).any (·.1) = false := by rfl) :
    PE X (.Call (.Name y p) [.Name x q1] [] pos) (fun σ H Q => ∃ a, σ[j]? = some (some (.ref a)) ∧ tRefO Z known m a H Q) := by
  refine ⟨fun pins s σ H Q I h => ?_⟩
  obtain ⟨a, hs, CE, d, Y, c, ns, ds, ha, hYa, hc, hY, tb, hda, ⟨hx1, hx2⟩, r, er, q⟩ := h
  refine wpAny_Call_Name_kw (ld_glob I hg hm ?_ hdb)
  have pa : PA X [.Name x q1] (tCons (tVar j) tNil) := pa_cons (pe_var hN hv hd hcd) pa_nil he
  refine PySem.W.callWith_K (h₀ := X.base) I.ok.mod.kin hk (thn (pa.run pos pins s σ H (fun vs K1 => vs = [.ref a] ∧ K1 = H) I ⟨.ref a, hs, rfl, rfl⟩) fun us s1 ⟨vs, K1, I1, r1, ev, eH⟩ => ⟨I1.kIn, ?_⟩) he hpl
  subst ev
  subst eH
  obtain ⟨u, rfl, ru⟩ := r1.one
  obtain rfl : u = Value.ref a := ru
  obtain ⟨oe, t1, eo, hget, J⟩ := Inv.still I1 ha
  have P1 := J.pin (a, oe) (List.mem_append_right _ List.mem_cons_self)
  have hpin : L2H.PinOk X.stack (delH K1 a) s1 (a, oe) := ⟨P1.1, P1.2.1, fun hm => (List.mem_cons.mp (J.stkSub a hm)).elim P1.2.2.1 P1.2.2.2.1, P1.2.2.2.2⟩
  have hb' := hb s1 [Value.ref a] I1.kIn rfl
  have e0 : Env0 X.prog X.w Z.K Z.mg X.base X.A X.stack s1 (delH K1 a) := by
    have q := J.env0
    rw [← hK, ← hmg]
    exact q
  have nt : ∀ ps, K1 a ≠ some (.tbl ps) := fun ps z => by rw [ha] at z; cases z
  have nc : ∀ q, K1 a ≠ some (CodeO a q) := fun q z => by
    obtain ⟨oc, vs, t, h1, h2, h3⟩ := (show ObjOk X.prog X.w K1 s1.heap a (CodeO a q) from I1.hok a _ z).1
    rw [hget, eo] at h1
    cases h1
    cases h2
    cases h3
  have F := fw_del (Z := Z) hYa nt nc
  have run := Rf.run X.A X.stack s1 (delH K1 a) ⟨[.ref a], []⟩ (fun v H' => H' a = none → Q v (upd H' a (exo a CE d))) a oe d (fun b => Y b ∧ b ≠ a) c ns ds CE (L2H.roomH_of (hr.mono (by decide))) hpin (by rw [eo]; exact ⟨rfl, rfl⟩) (by rw [eo]; exact ⟨_, rfl⟩) e0 hb' hc (fun x hx => by rw [delH_ne hx.2]; exact hY x hx.1) (F.tabs tb)
    ⟨CE, rfl, hx1, hx2.imp id fun ⟨dd, vs, h1, h2, h3, h4⟩ => ⟨dd, vs, h1, h2, by rw [delH_ne (fun z => hda (by rw [h1, z]))]; exact h3, RepL.mono F _ _ h4⟩⟩
    ⟨r, er, fun v H' kp rv hn => ?_⟩
  · show wpAny (model X.prog X.w) X.A (call (.ref fR) [.ref a]) _ _ s1
    refine wpAny_call (codeAny_mono run fun r s' hq => ?_)
    cases r with
    | error e =>
      obtain ⟨_, _, _, _, _, _, _, _, _, _, _, _, z⟩ := hq
      exact z.elim
    | ok fl =>
      cases fl with
      | ret u =>
        obtain ⟨v, H', J', rv, q'⟩ := J.after hq
        exact ⟨v, _, Inv.track I1 ha eo J', rv, q' (J'.pin (a, oe) (List.mem_append_right _ List.mem_cons_self)).2.1⟩
      | next => exact False.elim hq
      | brk => exact False.elim hq
      | cont => exact False.elim hq
  · refine q v _ ⟨fun b o h t => ?_, fun b ps h => ?_, fun t => ?_⟩ (Rep.mono (Fw.same (same_new hn)) _ _ rv)
    · by_cases hb : b = a
      · subst hb; rw [upd_same, ← h, ha]
      · rw [upd_ne hb]; exact kp.keep b o (by rw [delH_ne hb]; exact h) t
    · have hb : b ≠ a := fun z => by subst z; exact nt ps h
      obtain ⟨qs, e⟩ := kp.ktbl b ps (by rw [delH_ne hb]; exact h)
      exact ⟨qs, by rw [upd_ne hb]; exact e⟩
    · exact (kp.tabs (F.tabs t)).ext fun b o h => by
        have hb : b ≠ a := fun z => by subst z; rw [hn] at h; cases h
        rw [upd_ne hb]; exact h
end
end PD

set_option linter.all false
set_option maxRecDepth 100000
set_option maxHeartbeats 2000000
namespace PD
open PySem PySem.Spec PyProof.Rows L2 LamX NdefX
section
variable {X : Cx} {pins : List (Addr × Obj)} {σ : L2.St} {H : Hp} {s : Shared} {d : Addr} {fs : List (Str × V)}
theorem Inv.xd (I : Inv X pins σ H s) (hd : H d = some (exd d fs)) : Inv X pins σ (upd H d (.xd fs)) s := by
  have ne : ∀ {b : Addr} {o : HO}, H b = some o → o ≠ exd d fs → b ≠ d := fun e n z => by subst z; rw [hd] at e; cases e; exact n rfl
  have nn : ∀ {b : Addr}, H b = none → upd H d (.xd fs) b = none := fun {b} e => by
    have : b ≠ d := fun z => by subst z; rw [hd] at e; cases e
    rw [upd_ne this]; exact e
  refine ⟨I.ok, I.os, I.bare, ⟨I.base.keep, I.base.slot, fun b o h1 h2 h3 => nn (I.base.free b o h1 h2 h3), I.base.there, fun b xs h => ?_, fun b o u h => ?_, fun b ps h => ?_⟩, I.loc, I.cell, nn I.free, fun x c h => nn (I.freeC x c h), fun p hp => ?_, fun b o h => ?_, I.len⟩
  · have q := I.base.tups b xs h
    rw [upd_ne (ne q fun z => by cases z)]; exact q
  · have q := I.base.frzs b o u h
    rw [upd_ne (ne q fun z => by cases z)]; exact q
  · obtain ⟨m, q⟩ := I.base.tbls b ps h
    exact ⟨m, by rw [upd_ne (ne q fun z => by cases z)]; exact q⟩
  · obtain ⟨q1, q2, q3⟩ := I.pin p hp
    exact ⟨q1, nn q2, q3⟩
  · by_cases hb : b = d
    · subst hb
      rw [upd_same] at h
      cases h
      obtain ⟨mA, h1, h2⟩ := exd_at I.hok hd
      exact ⟨mA, h1, h2⟩
    · rw [upd_ne hb] at h
      exact (I.hok b o h).stay (fun c v _ q => q) (fun c q => by rw [upd_ne (ne q fun z => by cases z)]; exact q) fun c xs q => by rw [upd_ne (ne q fun z => by cases z)]; exact q
end
section
variable {X : Cx} {e : Expr} {es : List Expr} {ta : TA} {c n1 n2 : Str} {C fI : Addr} {fd : FuncData} {ps : List Str} {sp : Sp} {p pos : Pos} {Z : Zt} {Γ : Gm} {fs : S → R (List W)}
theorem pe_oexS (M : CanMk X c C fI fd ps sp) (hx : Passes (L2.CX X.prog X.w) X (fun _ _ _ => False)) (hr : Room 2 X.A) (hg : Gl X c) (ha : PA X (e :: es) ta)
    (hdb : (c == ("__debug__" : Str)) = false := by decide) (he : starEach (e :: es) X.env = (false, eval e X.env) :: starEach es X.env := by rfl) (hpl : (backTo pos (starEach es X.env)).any (·.1) = false := by rfl) :
    PE X (.Call (.Name c p) (e :: es) [] pos) (fun σ H Q => ta σ H fun vs H1 => vs.length ≤ 1000 ∧ ∀ a, H1 a = none → sp (.ref a :: vs) (upd H1 a (exo a C none)) (fun v H2 => v = .non ∧ ((∃ d fs, H2 a = some (exo a C (some d)) ∧ d ≠ a ∧ H2 d = some (exd d fs) ∧ Q (.ref a) (upd H2 d (.xd fs))) )) (fun _ _ _ => False)) := by
  refine ⟨fun pins s σ H Q I h => ?_⟩
  obtain ⟨nm, q, N, bs, bm, sn, sub, ab, col, dd, k0, k1, k2, k3, k5, hC, hbm⟩ := M.T.cls
  refine wpAny_Call_Name_kw (ld_glob I hg M.mg ?_ hdb)
  refine PySem.W.callWith_K (h₀ := X.base) I.ok.mod.kin M.T.kC (thn (ha.run pos pins s σ H _ I h) fun ws s1 ⟨vs, H1, I1, r1, hz, q1⟩ => ⟨I1.kIn, ?_⟩) he hpl
  show wpAny _ _ (call (.ref C) ws) _ _ _
  obtain ⟨hp, g, dr, tk, os⟩ := s1
  let hp2 : Heap := (hp.push (PySem.W.kdv_tup ws)).push (PySem.HandSPX.excO C hp.objs.size)
  let a : Addr := hp.objs.size + 1
  have le : hp.objs.size ≤ a := Nat.le_succ _
  have hn : H1 a = none := I1.hok.fresh le
  have kp : ∀ b o, hp.get? b = some o → hp2.get? b = some o := fun b o e => Heap.get?_push_of_some _ (Heap.get?_push_of_some _ e)
  have ga : ((hp.push (PySem.W.kdv_tup ws)).push (PySem.HandSPX.excO C hp.objs.size)).get? (hp.objs.size + 1) = some (PySem.HandSPX.excO C hp.objs.size) := by heap_get
  have I2 : Inv X pins σ (upd H1 a (exo a C none)) ⟨hp2, g, dr, tk, os⟩ := I1.laid (t' := tk) (a := a) (o := exo a C none) (h' := hp2) kp le (exo_ok ga)
  have hq := q1 a hn
  have r2 : Vals (V.ref a :: vs) (Value.ref a :: ws) := .cons rfl r1
  have ll0 : (Value.ref a :: ws ++ []).length = ps.length := by
    have e := r2.length
    rw [M.fn.len _ _ _ _ hq] at e
    rw [List.append_nil]
    exact e.symm
  have lus : ws.length ≤ sizeLine := by
    rw [← Paired.length r1, sizeLine_eq]
    omega
  have b2 := M.bi ⟨hp2, g, dr, tk, os⟩ (Value.ref a :: ws) I2.kIn ll0
  rw [List.append_nil] at b2
  refine wpAny_call (PySem.HandSPX.call_own PySem.F.excBase_ValueError (fun Y => PySem.HandSPX.refsVE_contains Y bm hbm) (I1.kIn _ _ hC) (PySem.W.looks_findIn I1.kIn M.ini) (fun self => PySem.W.bind_fn I1.kIn self M.ty) lus
    (codeAny_mono (M.fn.run _ X.stack ⟨hp2, g, dr, tk, os⟩ _ ⟨Value.ref a :: ws, []⟩ (Value.ref a :: ws) (V.ref a :: vs) _ _ (hr.make C ws []) (I2.env0.make C ws []) b2 r2 hq) fun r s' z => ?_))
  cases r with
  | error er => exact hx pins σ _ _ er s' I2 z
  | ok fl =>
    cases fl with
    | ret u =>
      obtain ⟨v, H2, J, rv, ev, d, fs, e1, e2, e3, q⟩ := I2.after z
      subst ev
      exact ⟨rv, .ref a, _, Inv.xd J e3, rfl, q⟩
    | next => exact False.elim z
    | brk => exact False.elim z
    | cont => exact False.elim z
theorem upd_exo {H1 : Hp} {a d : Addr} {o1 o2 o3 o4 : HO} (hd : d ≠ a) : upd (upd (upd (upd H1 a o1) d o2) a o3) d o4 = upd (upd H1 d o4) a o3 := by
  funext b
  by_cases h1 : b = d
  · subst h1
    rw [upd_same, upd_ne hd, upd_same]
  · rw [upd_ne h1]
    by_cases h2 : b = a
    · subst h2; rw [upd_same, upd_same]
    · rw [upd_ne h2, upd_ne h1, upd_ne h2, upd_ne h2, upd_ne h1]
theorem upd_exo2 {H1 : Hp} {a d : Addr} {o1 o2 o3 o4 o5 : HO} (hd : d ≠ a) : upd (upd (upd (upd (upd H1 a o1) d o2) a o3) d o4) d o5 = upd (upd H1 d o5) a o3 := by
  funext b
  by_cases h1 : b = d
  · subst h1
    rw [upd_same, upd_ne hd, upd_same]
  · rw [upd_ne h1, upd_ne h1]
    by_cases h2 : b = a
    · subst h2; rw [upd_same, upd_same]
    · rw [upd_ne h2, upd_ne h1, upd_ne h2, upd_ne h2, upd_ne h1]
end
end PD

set_option linter.all false
set_option maxRecDepth 100000
set_option maxHeartbeats 2000000
namespace PD
open PySem PySem.Spec PyProof.Rows L2 LamX NdefX
section
variable {X : Cx} {x n y : Str} {c : Value} {i j : Nat} {suite : List Stmt} {b₀ : Stmt} {np q1 rp pos pos' : Pos} {ts : Addr → Value → Option Addr → TS}
theorem ps_tryRaise (hs : X.stack = X.env :: X.outer) (hf : X.env.frame = some X.env.locals) (hcalm : X.calm = true) (hex : X.ex = []) (hN : X.N.Nodup) (hi : X.N[i]? = some n) (hln : X.env.kindOf n = some .local) (hc : Names X x c)
    (hj : X.N[j]? = some y) (hv : Vis X.env.scope y) (hd1 : (y == ("__debug__" : Str)) = false) (hd2 : (y == ("__classdict__" : Str)) = false)
    (hsu : ∀ (a : Addr) (oe : Obj) (cls : Value) (d : Option Addr) (pn : List (Addr × Obj)), Zc cls d oe → (∃ vs, oe.data = .fields vs) → PSs (X.suite a ((a, oe) :: pn)) (b₀ :: suite) (ts a cls d)) :
    PS X (.Try [.Raise (some (.Name y q1)) none rp] [.ExceptHandler (some (.Name x np)) (some n) (b₀ :: suite) pos'] [] [] pos) (fun D σ H => ∃ (a C : Addr) (d : Option Addr), σ[j]? = some (some (.ref a)) ∧ H a = some (exo a C d) ∧ Fr0 X.H_0 a ∧ Raises X (.ref C) ∧ PySem.W.exmOne X.K (.ref C) c = some true ∧
      ((∀ q, H a ≠ some (CodeO a q)) → ts a (.ref C) d { nx := fun σ' H' => D.nx (σ'.set i none) H', rt := D.rt, bk := fun σ' H' => D.bk (σ'.set i none) H', ct := fun σ' H' => D.ct (σ'.set i none) H' } (σ.set i (some (.ref a))) (delH H a))) := by
  refine ⟨fun pins s σ H D I h => ?_⟩
  obtain ⟨a0, C, d0, hs0, ha0, hfr0, hrs, hex1, hts⟩ := h
  have hts := hts fun q z => by
    obtain ⟨t1, ho⟩ := exo_at I.hok ha0
    obtain ⟨oc, vs, t, h1, h2, h3⟩ := (show ObjOk X.prog X.w H s.heap a0 (CodeO a0 q) from I.hok a0 _ z).1
    rw [ho] at h1
    cases h1
    cases h2
    cases h3
  have ok := I.ok
  have hfr : X.A.frames = some (X.env :: X.outer) := by rw [ok.frames, hs]
  have hloc : Loc X.env.scope n := .inl hln
  let xe : Value → Shared → Prop := fun e s₁ => wpAny (model X.prog X.w) X.A (noteFrame e X.env) (fun _ s₂ => wpAny (model X.prog X.w) X.A (setFlight e none) (fun _ s₃ => wpAny (model X.prog X.w) X.A (handleBy e X.env [.ExceptHandler (some (.Name x np)) (some n) (b₀ :: suite) pos']) (SP X pins D) X.xe s₃) X.xe s₂) X.xe s₁
  let X1 : Cx := X.tr (X.pn ++ pins) xe
  have I1 : Inv X1 [] σ H s := I.toTry xe
  let W : WX := fun cls d σ' H' => cls = .ref C ∧ d = d0 ∧ σ' = σ ∧ H' = delH H a0
  -- the raised exception is caught
  have catch_ : ∀ s', XE X1 W (.ref a0) s' → xe (.ref a0) s' := fun s' xx => by
    obtain ⟨a, B, sI, pins', σ', H', cls, d, eu, J', nb, up, sky, na, os, ag, rfl, rfl, rfl, rfl⟩ := xx
    have ea : a = a0 := by cases eu; rfl
    subst ea
    have J : Inv X pins σ' (delH H a) sI := J'.ofTry ok
    have sky' : Sky B (X.env :: X.outer) a (Zc (.ref C) d) X.env.locals s'.heap := by rw [← hs]; exact sky
    show wpAny (model X.prog X.w) X.A (noteFrame (.ref a) X.env) _ _ _
    refine Sky.land Zc.steady hfr hf sky' fun h3 fl3 up3 => ?_
    have J3 : Inv X pins σ' (delH H a) { s' with heap := h3 } := J.landed nb fl3.1 (up.trans up3) os ag
    obtain ⟨oe3, vs3, he3, hz3, hd3⟩ := fl3.there
    have notFr : ∀ {h : Heap} {o : Obj} {vs : Array Value}, h.FunFrames B (X.env :: X.outer) → h.get? a = some o → o.data = .fields vs → a ∉ frs (X.env :: X.outer) := fun {h o vs} ff e dd hm => by
      obtain ⟨_, o', e', hnf⟩ := ff.mem hm
      rw [e] at e'; cases e'
      exact hnf _ dd
    have nfr := notFr fl3.2.2.1 he3 hd3
    have nL : a ≠ X.env.locals := fun z => nfr (List.mem_filterMap.mpr ⟨X.env, List.mem_cons_self, by rw [hf, z]⟩)
    have nF : a ∉ X.fs := fun hm => by
      obtain ⟨e, he, q⟩ := List.mem_filterMap.mp hm
      exact nfr (List.mem_filterMap.mpr ⟨e, List.mem_cons_of_mem _ he, q⟩)
    have S3 := J3.suite he3 hd3 na nL nF
    refine wpAny_handleBy_cons (codeAny_handlers_test ?_) (by intro q; cases q)
    have LT : PySem.W.Looks (model X.prog X.w) h3 (typeOf (.ref a)) (.ref C) := fun A Q E s k q => wpAny_typeOf_ref (k _ _ he3) (by rw [hz3.1]; exact q)
    have LM := PySem.W.exm_one (M := model X.prog X.w) (J3.kIn) LT hex1
    have test : ∀ {Q : Value → Shared → Prop} {E : Value → Shared → Prop}, Q c { s' with heap := h3 } → wpAny (model X.prog X.w) (X.A.mark (some (.ref a))) (eval (.Name x np) X.env) Q E { s' with heap := h3 } := fun {Q E} q => by
      obtain ⟨hg, hdbg, hm | ⟨hm, hv, hnn⟩⟩ := hc
      · exact ld_glob (X := X.suite a ((a, oe3) :: (X.pn ++ pins))) S3 hg hm q hdbg
      · exact ld_blt (X := X.suite a ((a, oe3) :: (X.pn ++ pins))) S3 hg hm hv q hnn hdbg
    refine test (LM.here ?_)
    refine codeAny_handlers_suite_as ?_
    refine HandSPX.lands_againZ fl3 fun h4 fl4 up4 => ?_
    have J4 : Inv X pins σ' (delH H a) { s' with heap := h4 } := J.landed nb fl4.1 ((up.trans up3).trans up4) os ag
    obtain ⟨oe4, vs4, he4, hz4, hd4⟩ := fl4.there
    have S4 := J4.suite he4 hd4 na nL nF
    refine store_ok (X := X.suite a ((a, oe4) :: (X.pn ++ pins))) (v := .ref a) S4 hN hi hloc rfl (fun s5 S5 => ?_) (.inr hln)
    refine wpAny_mono ((hsu a oe4 (.ref C) d (X.pn ++ pins) hz4 ⟨_, hd4⟩).run [] s5 _ (delH H a) _ S5 hts) (fun f s6 hsp => ?_) (fun _ _ z => False.elim z)
    have end_ : ∀ {σ6 : L2.St} {H6 : Hp} {Q : Shared → Prop}, Inv (X.suite a ((a, oe4) :: (X.pn ++ pins))) [] σ6 H6 s6 → (∀ s7, Inv X pins (σ6.set i none) H6 s7 → Q s7) →
        wpAny (model X.prog X.w) X.A (do bindName X.env n .none; unbindBehindTheSuite X.env n pos') (fun _ s7 => Q s7) X.xe s6 := fun {σ6 H6 Q} S6 hq => gone_ok (S6.unsuite ok) hN hi hln hq
    cases f with
    | next =>
      obtain ⟨σ6, H6, S6, q6⟩ := hsp
      exact end_ S6 fun s7 J7 => ⟨_, _, J7, q6⟩
    | brk =>
      obtain ⟨σ6, H6, S6, q6⟩ := hsp
      exact end_ S6 fun s7 J7 => ⟨_, _, J7, q6⟩
    | cont =>
      obtain ⟨σ6, H6, S6, q6⟩ := hsp
      exact end_ S6 fun s7 J7 => ⟨_, _, J7, q6⟩
    | ret u =>
      obtain ⟨v6, σ6, H6, S6, r6, q6⟩ := hsp
      exact end_ S6 fun s7 J7 => ⟨_, _, _, J7, r6, q6⟩
  have P : PS X1 (.Raise (some (.Name y q1)) none rp) (fun _ σ' H' => σ' = σ ∧ H' = H) := by
    refine ⟨fun pins2 s2 σ2 H2 D2 I2 h2 => ?_⟩
    obtain ⟨e1, e2⟩ := h2
    subst e1
    subst e2
    show wpAny _ _ (do standAt rp; raiseStmt X1.env (some (do let v ← eval (.Name y q1) X1.env; standAt rp; pure v)) none) _ _ _
    refine wpAny_bind (wpAny_standAt (raise_made (I2.ok.hd hcalm) (wpAny_bind (wpAny_mono ((pe_var (X := X1) (pos := q1) hj hv hd1 hd2).run pins2 s2 σ2 H2 (fun v K1 => v = .ref a0 ∧ K1 = H2) I2 ⟨.ref a0, hs0, rfl, rfl⟩) (fun u s1 hu => wpAny_bind (wpAny_standAt (wpAny_pure ?_))) fun _ _ x => x))))
    obtain ⟨v, K1, J1, r1, ev, eH⟩ := hu
    subst ev
    subst eH
    obtain rfl : u = Value.ref a0 := r1
    obtain ⟨t1, ho⟩ := exo_at J1.hok ha0
    obtain ⟨G, gs, gn, J⟩ := J1.untrack ha0 hfr0 hex
    obtain ⟨z1, z2⟩ := hrs (model X.prog X.w) s1.heap (J.kIn.keeps gs)
    exact ⟨a0, _, _, .ref C, rfl, ho, rfl, rfl, rfl, z1, z2, catch_ _ (XE.new (W := W) J gs gn ho ⟨rfl, rfl⟩ rfl rfl delH_same rfl J1.bare ⟨rfl, rfl, rfl, rfl⟩)⟩
  refine wpAny_Try_except (wpAny_mono ((pss_one P).run [] s σ H D I1 ⟨rfl, rfl⟩) (fun f s1 hsp => ?_) fun e s1 he => he)
  cases f with
  | next => obtain ⟨σ', H', J', q⟩ := hsp; exact wpAny_execs_nil ⟨σ', H', J'.ofTry ok, q⟩
  | ret v =>
    obtain ⟨v', σ', H', J', r, q⟩ := hsp
    exact ⟨v', σ', H', J'.ofTry ok, r, q⟩
  | brk => obtain ⟨σ', H', J', q⟩ := hsp; exact ⟨σ', H', J'.ofTry ok, q⟩
  | cont => obtain ⟨σ', H', J', q⟩ := hsp; exact ⟨σ', H', J'.ofTry ok, q⟩
end
end PD

set_option linter.all false
set_option maxRecDepth 100000
set_option maxHeartbeats 2000000
namespace PD
open PySem PySem.Spec PyProof.Rows L2 LamX NdefX
structure FnGH (P : Program) (w : World) (K : PySem.W.Frag) (mg : Str → Option Value) (base : Heap) (CX : CXT) (k : Nat) (f : Addr) (fd : FuncData) (ps : List Str) (sp : Sp) : Prop where
  len : ∀ vs H Q E, sp vs H Q E → vs.length = ps.length
  run : ∀ (A : Around) (outer : List Env) (s : Shared) (H : Hp) (args : Args) (us : List Value) (vs : List V) (Q : VK) (E : XK) (p : Addr × Obj), L2H.RoomH k A → A.guards = some [] → L2H.PinOk outer H s p → Env0 P w K mg base A outer s H → BindsTo s fd args (ps.zip us) → Vals vs us → sp vs H Q E →
    codeAny (model P w) A (.call (.ref f) args) (CR CX outer P w H s Q E) s
section
variable {P : Program} {w : World} {Z : Zt} {base : Heap}
theorem okPgH {x qual : Str} {st : Stmt} {f : Addr} {fd : FuncData} {N ps : List Str} {k : Nat} {body : S → SR} (F : Fun Z.K x qual st f fd) (Sc : FnScope N ps (defScope st))
    (hb : ∀ (cdv : Value) (A : Around) (outer : List Env) (s : Shared) (Y : Addr → Prop) (H : Hp) (E : XK) (p : Addr × Obj), L2H.RoomH k (A.deeper (envOfC qual (defScope st) s.heap.objs.size f cdv)) → A.guards = some [] →
      PSs (L2H.cxH (L2.CX P w) P w Z.K Z.mg base N qual (defScope st) f cdv A outer s H E p) (defBody st) (tS Z (Gp Y H E) body)) :
    FnGH P w Z.K Z.mg base (L2.CX P w) (k + 1) f fd ps (spP Z ps.length (runP N.length body)) := by
  refine ⟨fun vs H Q E h => h.1, fun A outer s H args us vs Q E p hr hg hp e0 hbd r h => ?_⟩
  obtain ⟨hl, Y, ds, hY, tb, rr, po⟩ := goP_of h
  obtain ⟨oc, od, kV, doc, pm, an, cdv, ct, osl, rfl, lk, hcd⟩ := F.ex
  exact run_hot (N := N) lk hcd Sc hr hp e0 hbd r hl fun hr' => ⟨_, hb cdv A outer s Y H E p hr' hg, ps_of_spP (x := x) (qual := qual) (st := st) hY tb rr po⟩
end
section
variable {X : Cx} {a f : Addr} {oe : Obj} {pn : List (Addr × Obj)} {fd : FuncData} {ps : List Str} {sp : Sp} {k : Nat} {e : Expr} {es : List Expr} {ta : TA} {p pos : Pos} {x : Str}
theorem pe_callGH (F : FnGH X.prog X.w X.K X.mg X.base (L2.CX X.prog X.w) k f fd ps sp) (hr : L2H.RoomH k X.A) (hgd : X.A.guards = some []) (hg : Gl X x) (hm : X.mg x = some (.ref f)) (hk : PySem.W.keepIn X.K (.ref f) = true) (hb : L2.Binds X.K fd ps [])
    (ha : PA (X.suite a ((a, oe) :: pn)) (e :: es) ta) (hdb : (x == ("__debug__" : Str)) = false := by decide)
    (he : starEach (e :: es) X.env = (false, eval e X.env) :: starEach es X.env := by rfl) (hpl : (backTo pos (starEach es X.env)).any (·.1) = false := by rfl) :
    PE (X.suite a ((a, oe) :: pn)) (.Call (.Name x p) (e :: es) [] pos) (fun σ H Q => ta σ H fun vs H1 => sp vs H1 Q fun _ _ _ => False) := by
  refine ⟨fun pins s σ H Q I h => ?_⟩
  refine wpAny_Call_Name_kw (ld_glob (X := X.suite a ((a, oe) :: pn)) I hg hm ?_ hdb)
  refine PySem.W.callWith_K (h₀ := X.base) I.ok.mod.kin hk (thn (ha.run pos pins s σ H _ I h) fun us s1 ⟨vs, K1, I1, r1, q⟩ => ⟨I1.kIn, ?_⟩) he hpl
  have P1 := I1.pin (a, oe) (List.mem_append_left _ (List.mem_cons_self ..))
  have hpin : L2H.PinOk X.stack K1 s1 (a, oe) := ⟨P1.1, P1.2.1, fun hm => (List.mem_cons.mp (I1.stkSub a hm)).elim P1.2.2.1 P1.2.2.2.1, P1.2.2.2.2⟩
  have hl : us.length = ps.length := by rw [← r1.length]; exact F.len _ _ _ _ q
  have hb' := hb s1 us I1.kIn (by rw [List.append_nil]; exact hl)
  rw [List.append_nil] at hb'
  have run := F.run (X.A.mark (some (.ref a))) X.stack s1 K1 ⟨us, []⟩ us vs Q _ (a, oe) ⟨hr.dp, hr.un⟩ hgd hpin I1.env0 hb' r1 q
  show wpAny (model X.prog X.w) (X.A.mark (some (.ref a))) (call (.ref f) us) _ _ s1
  refine wpAny_call (codeAny_mono run fun r s' hq => ?_)
  cases r with
  | error e =>
    obtain ⟨_, _, _, _, _, _, _, _, _, _, _, _, z⟩ := hq
    exact z.elim
  | ok fl =>
    cases fl with
    | ret u => exact I1.after hq
    | next => exact False.elim hq
    | brk => exact False.elim hq
    | cont => exact False.elim hq
end
theorem ExR.kp {Z : Zt} {Y : Addr → Prop} {H H' : Hp} {c : Str} {ns : List Str} {ds : List D} {cls : Value} {d : Option Addr} (k : Kp Z H H') (x : ExR Z Y H c ns ds cls d) : ExR Z Y H' c ns ds cls d := by
  obtain ⟨C, e1, e2, e3⟩ := x
  exact ⟨C, e1, e2, e3.imp id fun ⟨dd, vs, h1, h2, h3, h4⟩ => ⟨dd, vs, h1, h2, k.keep _ _ h3 (fun ps z => by cases z), RepL.mono k.fw _ _ h4⟩⟩
section
variable {X : Cx} {Z : Zt} {a fR fS : Addr} {oe : Obj} {cls : Value} {d : Option Addr} {pn : List (Addr × Obj)} {fdR fdS : FuncData} {known : List Str} {m : Str → List Str → List D → Option D} {g : List D → FR} {je jo kk : Nat} {n y : Str} {p1 p2 p3 p4 p5 p6 p7 p8 p9 p10 p11 p12 : Pos} {jj : Nat}
theorem pss_suite (Rf : RefOk X.prog X.w Z X.base fR fdR known m) (Fs : FnGH X.prog X.w X.K X.mg X.base (L2.CX X.prog X.w) kk fS fdS ["found", "due"] (spP Z 2 g)) (hK : X.K = Z.K) (hmg : X.mg = Z.mg) (hz : Zc cls d oe) (hf : ∃ vs, oe.data = .fields vs) (hr : Room 3 X.A) (hrk : L2H.RoomH kk X.A) (hgd : X.A.guards = some [])
    (hgR : Gl X "_law_refusal") (hmR : X.mg "_law_refusal" = some (.ref fR)) (hkR : PySem.W.keepIn X.K (.ref fR) = true) (hbR : L2.Binds X.K fdR ["e"] []) (hgS : Gl X "_law_same") (hmS : X.mg "_law_same" = some (.ref fS)) (hkS : PySem.W.keepIn X.K (.ref fS) = true) (hbS : L2.Binds X.K fdS ["found", "due"] [])
    (hN : X.N[je]? = some n) (hv : Vis X.env.scope n) (hd : (n == ("__debug__" : Str)) = false) (hcd : (n == ("__classdict__" : Str)) = false) (hN2 : X.N[jo]? = some y) (hv2 : Vis X.env.scope y) (hd2 : (y == ("__debug__" : Str)) = false) (hcd2 : (y == ("__classdict__" : Str)) = false)
    (he1 : starEach [.Name n p4] X.env = (false, eval (.Name n p4) X.env) :: starEach [] X.env) (he2 : starEach [.Name y p7] X.env = (false, eval (.Name y p7) X.env) :: starEach [] X.env) (hpl1 : (backTo p5 (starEach [] X.env)).any (·.1) = false) (hpl2 : (backTo p8 (starEach [] X.env)).any (·.1) = false)
    (he3 : starEach [.Call (.Name "_law_refusal" p3) [.Name n p4] [] p5, .Call (.Name "_law_refusal" p6) [.Name y p7] [] p8] X.env = (false, eval (.Call (.Name "_law_refusal" p3) [.Name n p4] [] p5) X.env) :: starEach [.Call (.Name "_law_refusal" p6) [.Name y p7] [] p8] X.env)
    (he4 : starEach [.Call (.Name "_law_refusal" p6) [.Name y p7] [] p8] X.env = (false, eval (.Call (.Name "_law_refusal" p6) [.Name y p7] [] p8) X.env) :: starEach [] X.env) (hpl3 : (backTo p9 (starEach [.Call (.Name "_law_refusal" p6) [.Name y p7] [] p8] X.env)).any (·.1) = false)
    (hit : ∀ whole, isTrue (.Call (.Name "_law_same" p2) [.Call (.Name "_law_refusal" p3) [.Name n p4] [] p5, .Call (.Name "_law_refusal" p6) [.Name y p7] [] p8] [] p9) X.env whole = (do let v ← whole; standAt p9; holding [v] (truthy v))) :
    PSs (X.suite a ((a, oe) :: pn)) [.If (.UnaryOp .Not (.Call (.Name "_law_same" p2) [.Call (.Name "_law_refusal" p3) [.Name n p4] [] p5, .Call (.Name "_law_refusal" p6) [.Name y p7] [] p8] [] p9) p10) [.Return (some (.Constant (.bool false) jj p11)) p12] [] p1]
      (fun Dn σ H => σ[je]? = some (some (.ref a)) ∧ σ[jo]? = some (some (.ref a)) ∧ (∃ (Y : Addr → Prop) (c : Str) (ns : List Str) (ds : List D) (CE : Addr) (r : D), cls = .ref CE ∧ c ∈ known ∧ (∀ x, Y x → H x ≠ none) ∧ Tabs Z.T H ∧ ExR Z Y H c ns ds (.ref CE) d ∧ m c ns ds = some r ∧ g [r, r] = .ok (.d (.bl true))) ∧ ∀ H', Kp Z H H' → Dn.nx σ H') := by
  have r1 := pe_ref (X := X) (a := a) (oe := oe) (pn := pn) (j := je) (x := n) (y := "_law_refusal") (p := p3) (q1 := p4) (pos := p5) Rf hK hmg hz hf hr hgR hmR hkR hbR hN hv hd hcd (by decide) he1 hpl1
  have r2 := pe_ref (X := X) (a := a) (oe := oe) (pn := pn) (j := jo) (x := y) (y := "_law_refusal") (p := p6) (q1 := p7) (pos := p8) Rf hK hmg hz hf hr hgR hmR hkR hbR hN2 hv2 hd2 hcd2 (by decide) he2 hpl2
  have r3 := pe_callGH (x := "_law_same") (p := p2) (pos := p9) Fs hrk hgd hgS hmS hkS hbS (pa_cons r1 (pa_cons r2 pa_nil he4) he3) (by decide) he3 hpl3
  refine pss_imp (pss_one (ps_if (pt_not (pt_val r3 hit)) (pss_one (ps_ret pe_bl)) pss_nil)) fun Dn σ H h => ?_
  obtain ⟨h1, h2, ⟨Y, c, ns, ds, CE, r, rfl, hc, hY, tb, hx, hm, hg⟩, q⟩ := h
  refine ⟨h1, Y, c, ns, ds, CE, rfl, hc, hY, tb, hx, r, hm, fun v1 H1 k1 rv1 => ?_⟩
  refine ⟨h2, Y, c, ns, ds, CE, rfl, hc, fun x hx => k1.there (hY x hx), k1.tabs tb, hx.kp k1, r, hm, fun v2 H2 k2 rv2 => ?_⟩
  refine ⟨rfl, Y, [r, r], fun x hx => k2.there (k1.there (hY x hx)), k2.tabs (k1.tabs tb), ?_, ?_⟩
  · simp only [RepL]
    exact ⟨_, _, rfl, Rep.mono k2.fw _ _ rv1, _, _, rfl, rv2, rfl⟩
  · rw [hg]
    intro v H' L k3 nd nw rr
    obtain ⟨_, rr⟩ := rr
    obtain rfl : v = V.bl true := by simpa only [Rep] using rr
    exact ⟨true, rfl, q H' ((k1.trans k2).trans k3)⟩
end
end PD

set_option linter.all false
set_option maxRecDepth 100000
set_option maxHeartbeats 2000000
namespace PD
open PySem PySem.Spec PyProof.Rows L2 LamX NdefX
def mth (c : Stmt) (j : Nat) : Stmt := match c with
  | .ClassDef _ _ _ body _ _ _ _ _ _ _ => body.getD j (.Pass ⟨0, 0, 0, 0⟩)
  | _ => .Pass ⟨0, 0, 0, 0⟩
def topS (i : Nat) : Stmt := PySem.Challenge.pw_ropeloft_k00_errors_tell_their_fields.main.body.getD i (.Pass ⟨0, 0, 0, 0⟩)
abbrev s__law_taken : Stmt := topS 15
abbrev N__law_taken : List Str := ["row", "many", "found", "cell"]
theorem sc__law_taken : FnScope N__law_taken ["row", "many"] (defScope s__law_taken) := ⟨rfl, rfl, rfl, by decide +kernel, rfl, by decide +kernel, by decide +kernel⟩
abbrev s__law_same : Stmt := topS 17
abbrev N__law_same : List Str := ["found", "due"]
theorem sc__law_same : FnScope N__law_same ["found", "due"] (defScope s__law_same) := ⟨rfl, rfl, rfl, by decide +kernel, rfl, by decide +kernel, by decide +kernel⟩
abbrev s__law_refusal : Stmt := topS 18
abbrev N__law_refusal : List Str := ["e", "names", "marks", "name"]
theorem sc__law_refusal : FnScope N__law_refusal ["e"] (defScope s__law_refusal) := ⟨rfl, rfl, rfl, by decide +kernel, rfl, by decide +kernel, by decide +kernel⟩
abbrev s__law_pick : Stmt := topS 16
abbrev N__law_pick : List Str := ["row", "things"]
theorem sc__law_pick : FnScope N__law_pick ["row", "things"] (defScope s__law_pick) := ⟨rfl, rfl, rfl, by decide +kernel, rfl, by decide +kernel, by decide +kernel⟩
abbrev s_law : Stmt := topS 19
abbrev N_law : List Str := ["script", "row", "value", "made", "fields", "one", "e"]
theorem sc_law : FnScope N_law ["script"] (defScope s_law) := ⟨rfl, rfl, rfl, by decide +kernel, rfl, by decide +kernel, by decide +kernel⟩
def askedL : List Str := ["BadRig", "BadNumber", "BadLines", "UnknownPoint", "UnknownMember", "BadTackle", "BadPieces", "BadText", "BadLine", "NotHeld", "BadClaim", "NothingDone"]
def fieldL : List Str := ["part", "place", "value", "name", "line"]
def knownL : List Str := ["BadClaim", "BadLine", "BadLines", "BadNumber", "BadPieces", "BadRig", "BadTackle", "BadText", "NotHeld", "NothingDone", "UnknownMember", "UnknownPoint"]
abbrev sI_BadClaim : Stmt := mth (topS 12) 0
theorem is_BadClaim : InitS "BadClaim.__init__" sI_BadClaim ["self", "__class__"] ["self"] [] := ⟨nscope_by (by decide +kernel), rfl, rfl, ⟨_, _, _, _, _, _, _, _, rfl, fun f L cc cd => ⟨⟨_, rfl⟩, rfl, rfl⟩⟩, rfl⟩
abbrev sI_BadLine : Stmt := mth (topS 9) 0
theorem is_BadLine : ∃ q0 q1 q2 q3 : Pos, InitS "BadLine.__init__" sI_BadLine ["self", "line", "__class__"] ["self", "line"] [.Assign [.Attribute (.Name "self" q0) "line" q1] (.Name "line" q2) q3] := ⟨_, _, _, _, nscope_by (by decide +kernel), rfl, rfl, ⟨_, _, _, _, _, _, _, _, rfl, fun f L cc cd => ⟨⟨_, rfl⟩, rfl, rfl⟩⟩, rfl⟩
abbrev sI_BadLines : Stmt := mth (topS 10) 0
theorem is_BadLines : ∃ q0 q1 q2 q3 : Pos, InitS "BadLines.__init__" sI_BadLines ["self", "value", "__class__"] ["self", "value"] [.Assign [.Attribute (.Name "self" q0) "value" q1] (.Name "value" q2) q3] := ⟨_, _, _, _, nscope_by (by decide +kernel), rfl, rfl, ⟨_, _, _, _, _, _, _, _, rfl, fun f L cc cd => ⟨⟨_, rfl⟩, rfl, rfl⟩⟩, rfl⟩
abbrev sI_BadNumber : Stmt := mth (topS 3) 0
theorem is_BadNumber : ∃ q0 q1 q2 q3 : Pos, InitS "BadNumber.__init__" sI_BadNumber ["self", "value", "__class__"] ["self", "value"] [.Assign [.Attribute (.Name "self" q0) "value" q1] (.Name "value" q2) q3] := ⟨_, _, _, _, nscope_by (by decide +kernel), rfl, rfl, ⟨_, _, _, _, _, _, _, _, rfl, fun f L cc cd => ⟨⟨_, rfl⟩, rfl, rfl⟩⟩, rfl⟩
abbrev sI_BadPieces : Stmt := mth (topS 7) 0
theorem is_BadPieces : ∃ q0 q1 q2 q3 : Pos, InitS "BadPieces.__init__" sI_BadPieces ["self", "place", "__class__"] ["self", "place"] [.Assign [.Attribute (.Name "self" q0) "place" q1] (.Name "place" q2) q3] := ⟨_, _, _, _, nscope_by (by decide +kernel), rfl, rfl, ⟨_, _, _, _, _, _, _, _, rfl, fun f L cc cd => ⟨⟨_, rfl⟩, rfl, rfl⟩⟩, rfl⟩
abbrev sI_BadRig : Stmt := mth (topS 2) 0
theorem is_BadRig : ∃ q0 q1 q2 q3 q4 q5 q6 q7 : Pos, InitS "BadRig.__init__" sI_BadRig ["self", "part", "place", "__class__"] ["self", "part", "place"] [.Assign [.Attribute (.Name "self" q0) "part" q1] (.Name "part" q2) q3, .Assign [.Attribute (.Name "self" q4) "place" q5] (.Name "place" q6) q7] := ⟨_, _, _, _, _, _, _, _, nscope_by (by decide +kernel), rfl, rfl, ⟨_, _, _, _, _, _, _, _, rfl, fun f L cc cd => ⟨⟨_, rfl⟩, rfl, rfl⟩⟩, rfl⟩
abbrev sI_BadTackle : Stmt := mth (topS 6) 0
theorem is_BadTackle : ∃ q0 q1 q2 q3 : Pos, InitS "BadTackle.__init__" sI_BadTackle ["self", "place", "__class__"] ["self", "place"] [.Assign [.Attribute (.Name "self" q0) "place" q1] (.Name "place" q2) q3] := ⟨_, _, _, _, nscope_by (by decide +kernel), rfl, rfl, ⟨_, _, _, _, _, _, _, _, rfl, fun f L cc cd => ⟨⟨_, rfl⟩, rfl, rfl⟩⟩, rfl⟩
abbrev sI_BadText : Stmt := mth (topS 8) 0
theorem is_BadText : ∃ q0 q1 q2 q3 : Pos, InitS "BadText.__init__" sI_BadText ["self", "line", "__class__"] ["self", "line"] [.Assign [.Attribute (.Name "self" q0) "line" q1] (.Name "line" q2) q3] := ⟨_, _, _, _, nscope_by (by decide +kernel), rfl, rfl, ⟨_, _, _, _, _, _, _, _, rfl, fun f L cc cd => ⟨⟨_, rfl⟩, rfl, rfl⟩⟩, rfl⟩
abbrev sI_NotHeld : Stmt := mth (topS 11) 0
theorem is_NotHeld : InitS "NotHeld.__init__" sI_NotHeld ["self", "__class__"] ["self"] [] := ⟨nscope_by (by decide +kernel), rfl, rfl, ⟨_, _, _, _, _, _, _, _, rfl, fun f L cc cd => ⟨⟨_, rfl⟩, rfl, rfl⟩⟩, rfl⟩
abbrev sI_NothingDone : Stmt := mth (topS 13) 0
theorem is_NothingDone : InitS "NothingDone.__init__" sI_NothingDone ["self", "__class__"] ["self"] [] := ⟨nscope_by (by decide +kernel), rfl, rfl, ⟨_, _, _, _, _, _, _, _, rfl, fun f L cc cd => ⟨⟨_, rfl⟩, rfl, rfl⟩⟩, rfl⟩
abbrev sI_UnknownMember : Stmt := mth (topS 5) 0
theorem is_UnknownMember : ∃ q0 q1 q2 q3 : Pos, InitS "UnknownMember.__init__" sI_UnknownMember ["self", "name", "__class__"] ["self", "name"] [.Assign [.Attribute (.Name "self" q0) "name" q1] (.Name "name" q2) q3] := ⟨_, _, _, _, nscope_by (by decide +kernel), rfl, rfl, ⟨_, _, _, _, _, _, _, _, rfl, fun f L cc cd => ⟨⟨_, rfl⟩, rfl, rfl⟩⟩, rfl⟩
abbrev sI_UnknownPoint : Stmt := mth (topS 4) 0
theorem is_UnknownPoint : ∃ q0 q1 q2 q3 : Pos, InitS "UnknownPoint.__init__" sI_UnknownPoint ["self", "name", "__class__"] ["self", "name"] [.Assign [.Attribute (.Name "self" q0) "name" q1] (.Name "name" q2) q3] := ⟨_, _, _, _, nscope_by (by decide +kernel), rfl, rfl, ⟨_, _, _, _, _, _, _, _, rfl, fun f L cc cd => ⟨⟨_, rfl⟩, rfl, rfl⟩⟩, rfl⟩
noncomputable def b__law_taken : S → SR := (sSeq (sIf (cVal (eBin gGt (eBin gIx2 (eV 0) (eC (.int 3))) (eC (.int 0)))) (sSeq (sAsg (gN 2) (eBin gMod (eApp gInt (aCons (eBin gIx2 (eV 0) (eC (.int 3))) aNil)) (eV 1))) (sSeq (sAsg (gSet 0 (eC (.int 3))) (eBin gDiv (eBin gIx2 (eV 0) (eC (.int 3))) (eV 1))) (sRet (eV 2)))) sNil) (sSeq (sAsg (gSet 0 (eC (.int 1))) (eBin gAdd (eBin gIx2 (eV 0) (eC (.int 1))) (eC (.int 1)))) (sSeq (sIf (cVal (eBin gGt (eBin gIx2 (eV 0) (eC (.int 1))) (eApp gLen (aCons (eBin gIx2 (eV 0) (eC (.int 0))) aNil)))) (sSeq (sAsg (gSet 0 (eC (.int 2))) (eBin gMod (eApp gInt (aCons (eBin gAdd (eBin gMul (eBin gIx2 (eV 0) (eC (.int 2))) (eC (.int 48271))) (eC (.int 11))) aNil)) (eC (.int 2147483647)))) (sRet (eBin gMod (eApp gInt (aCons (eBin gDiv (eBin gIx2 (eV 0) (eC (.int 2))) (eC (.int 7))) aNil)) (eV 1)))) sNil) (sSeq (sAsg (gN 3) (eBin gIx2 (eBin gIx2 (eV 0) (eC (.int 0))) (eBin gSub (eBin gIx2 (eV 0) (eC (.int 1))) (eC (.int 1))))) (sSeq (sAsg (gSet 0 (eC (.int 2))) (eBin gMod (eApp gInt (aCons (eBin gAdd (eBin gAdd (eBin gMul (eBin gIx2 (eV 0) (eC (.int 2))) (eC (.int 48271))) (eV 3)) (eC (.int 11))) aNil)) (eC (.int 2147483647)))) (sSeq (sIf (cVal (eBin gGe (eV 3) (eBin gPow (eC (.int 10)) (eC (.int 18))))) (sSeq (sAsg (gSet 0 (eC (.int 3))) (eBin gDiv (eV 3) (eV 1))) (sRet (eBin gMod (eApp gInt (aCons (eV 3) aNil)) (eV 1)))) sNil) (sRet (eBin gMod (eApp gInt (aCons (eBin gAdd (eBin gMul (eBin gMod (eApp gInt (aCons (eV 3) aNil)) (eC (.int 1000003))) (eC (.int 31))) (eBin gDiv (eBin gIx2 (eV 0) (eC (.int 2))) (eC (.int 11)))) aNil)) (eV 1)))))))))
noncomputable def m__law_taken : O → List D → FB := runB 4 b__law_taken
noncomputable def b__law_same : S → SR := (sRet (eBin gEq (eApp gRepr (aCons (eV 0) aNil)) (eApp gRepr (aCons (eV 1) aNil))))
noncomputable def m__law_same : List D → FR := runP 2 b__law_same
noncomputable def b__law_refusal (mk : Str → Bool) (ns : List Str) (ds : List D) : S → SR := (sSeq (sAsg (gN 1) (eLst (aCons (eC (.str "BadRig")) (aCons (eC (.str "BadNumber")) (aCons (eC (.str "BadLines")) (aCons (eC (.str "UnknownPoint")) (aCons (eC (.str "UnknownMember")) (aCons (eC (.str "BadTackle")) (aCons (eC (.str "BadPieces")) (aCons (eC (.str "BadText")) (aCons (eC (.str "BadLine")) (aCons (eC (.str "NotHeld")) (aCons (eC (.str "BadClaim")) (aCons (eC (.str "NothingDone")) aNil)))))))))))))) (sSeq (sAsg (gN 2) (eLst (aCons (eC (.bl (mk "BadRig"))) (aCons (eC (.bl (mk "BadNumber"))) (aCons (eC (.bl (mk "BadLines"))) (aCons (eC (.bl (mk "UnknownPoint"))) (aCons (eC (.bl (mk "UnknownMember"))) (aCons (eC (.bl (mk "BadTackle"))) (aCons (eC (.bl (mk "BadPieces"))) (aCons (eC (.bl (mk "BadText"))) (aCons (eC (.bl (mk "BadLine"))) (aCons (eC (.bl (mk "NotHeld"))) (aCons (eC (.bl (mk "BadClaim"))) (aCons (eC (.bl (mk "NothingDone"))) aNil)))))))))))))) (sSeq (sIf (cOr (cVal (eBin gNe (eCnt (eV 2) (eC (.bl true))) (eC (.int 1)))) (cNot (cVal (eC (.bl (mk "ValueError")))))) (sRet (eTup (aCons (eC (.str "other")) aNil))) sNil) (sSeq (sAsg (gN 3) (eBin gIx2 (eV 1) (eIdx (eV 2) (eC (.bl true))))) (sSeq (sIf (cVal (eBin gEq (eV 3) (eC (.str "BadRig")))) (sRet (eTup (aCons (eV 3) (aCons (eXf ns ds "part") (aCons (eXf ns ds "place") aNil))))) sNil) (sSeq (sIf (cVal (eBin gIn2 (eV 3) (eTup (aCons (eC (.str "BadNumber")) (aCons (eC (.str "BadLines")) aNil))))) (sRet (eTup (aCons (eV 3) (aCons (eXf ns ds "value") aNil)))) sNil) (sSeq (sIf (cVal (eBin gIn2 (eV 3) (eTup (aCons (eC (.str "UnknownPoint")) (aCons (eC (.str "UnknownMember")) aNil))))) (sRet (eTup (aCons (eV 3) (aCons (eXf ns ds "name") aNil)))) sNil) (sSeq (sIf (cVal (eBin gIn2 (eV 3) (eTup (aCons (eC (.str "BadTackle")) (aCons (eC (.str "BadPieces")) aNil))))) (sRet (eTup (aCons (eV 3) (aCons (eXf ns ds "place") aNil)))) sNil) (sSeq (sIf (cVal (eBin gIn2 (eV 3) (eTup (aCons (eC (.str "BadText")) (aCons (eC (.str "BadLine")) aNil))))) (sRet (eTup (aCons (eV 3) (aCons (eXf ns ds "line") aNil)))) sNil) (sRet (eTup (aCons (eV 3) aNil))))))))))))
noncomputable def m__law_refusal (c : Str) (ns : List Str) (ds : List D) : Option D := if c ∈ knownL then refM 4 (b__law_refusal (isE c) ns ds) else none
noncomputable def b__law_pick : S → SR := (sRet (eBin gIx2 (eV 1) (eFz (rCallB 1 0 m__law_taken (aCons (eApp gLen (aCons (eV 1) aNil)) aNil)))))
noncomputable def m__law_pick : O → List D → FB := runB 2 b__law_pick
structure Top (P : Program) (Z : Zt) (base : Heap) where
  z_ValueError : Z.mg "ValueError" = none
  z_int : Z.mg "int" = none
  z_isinstance : Z.mg "isinstance" = none
  z_len : Z.mg "len" = none
  z_repr : Z.mg "repr" = none
  ns_super : Z.mg "super" = none
  C_BadClaim : Addr
  g_BadClaim : Z.mg "BadClaim" = some (.ref C_BadClaim)
  C_BadLine : Addr
  g_BadLine : Z.mg "BadLine" = some (.ref C_BadLine)
  C_BadLines : Addr
  g_BadLines : Z.mg "BadLines" = some (.ref C_BadLines)
  C_BadNumber : Addr
  g_BadNumber : Z.mg "BadNumber" = some (.ref C_BadNumber)
  C_BadPieces : Addr
  g_BadPieces : Z.mg "BadPieces" = some (.ref C_BadPieces)
  C_BadRig : Addr
  g_BadRig : Z.mg "BadRig" = some (.ref C_BadRig)
  C_BadTackle : Addr
  g_BadTackle : Z.mg "BadTackle" = some (.ref C_BadTackle)
  C_BadText : Addr
  g_BadText : Z.mg "BadText" = some (.ref C_BadText)
  C_LoftError : Addr
  g_LoftError : Z.mg "LoftError" = some (.ref C_LoftError)
  C_NotHeld : Addr
  g_NotHeld : Z.mg "NotHeld" = some (.ref C_NotHeld)
  C_NothingDone : Addr
  g_NothingDone : Z.mg "NothingDone" = some (.ref C_NothingDone)
  C_UnknownMember : Addr
  g_UnknownMember : Z.mg "UnknownMember" = some (.ref C_UnknownMember)
  C_UnknownPoint : Addr
  g_UnknownPoint : Z.mg "UnknownPoint" = some (.ref C_UnknownPoint)
  aI_BadClaim : Addr
  dI_BadClaim : FuncData
  oe_BadClaim : OexC Z.K C_BadClaim
  xc_BadClaim : ExCls Z.K C_BadClaim
  if_BadClaim : InitF P Z.K C_BadClaim aI_BadClaim "BadClaim.__init__" sI_BadClaim dI_BadClaim
  ini_BadClaim : PySem.W.findIn Z.K (.ref C_BadClaim) "__init__" = some (some (.ref aI_BadClaim))
  ty_BadClaim : PySem.W.typeIn Z.K (.ref aI_BadClaim) = some (.type "function")
  bi_BadClaim : L2.Binds Z.K dI_BadClaim ["self"] []
  nx_BadClaim_part : PySem.W.findIn Z.K (.ref C_BadClaim) "part" = some none
  nx_BadClaim_place : PySem.W.findIn Z.K (.ref C_BadClaim) "place" = some none
  nx_BadClaim_value : PySem.W.findIn Z.K (.ref C_BadClaim) "value" = some none
  nx_BadClaim_name : PySem.W.findIn Z.K (.ref C_BadClaim) "name" = some none
  nx_BadClaim_line : PySem.W.findIn Z.K (.ref C_BadClaim) "line" = some none
  ec_BadClaim : ExcC Z.K C_BadClaim ∧ XfC Z.K C_BadClaim
  ke_BadClaim_BadRig : PySem.W.kitOne Z.K (.ref C_BadClaim) (.ref C_BadRig) = some (isE "BadClaim" "BadRig")
  ke_BadClaim_BadNumber : PySem.W.kitOne Z.K (.ref C_BadClaim) (.ref C_BadNumber) = some (isE "BadClaim" "BadNumber")
  ke_BadClaim_BadLines : PySem.W.kitOne Z.K (.ref C_BadClaim) (.ref C_BadLines) = some (isE "BadClaim" "BadLines")
  ke_BadClaim_UnknownPoint : PySem.W.kitOne Z.K (.ref C_BadClaim) (.ref C_UnknownPoint) = some (isE "BadClaim" "UnknownPoint")
  ke_BadClaim_UnknownMember : PySem.W.kitOne Z.K (.ref C_BadClaim) (.ref C_UnknownMember) = some (isE "BadClaim" "UnknownMember")
  ke_BadClaim_BadTackle : PySem.W.kitOne Z.K (.ref C_BadClaim) (.ref C_BadTackle) = some (isE "BadClaim" "BadTackle")
  ke_BadClaim_BadPieces : PySem.W.kitOne Z.K (.ref C_BadClaim) (.ref C_BadPieces) = some (isE "BadClaim" "BadPieces")
  ke_BadClaim_BadText : PySem.W.kitOne Z.K (.ref C_BadClaim) (.ref C_BadText) = some (isE "BadClaim" "BadText")
  ke_BadClaim_BadLine : PySem.W.kitOne Z.K (.ref C_BadClaim) (.ref C_BadLine) = some (isE "BadClaim" "BadLine")
  ke_BadClaim_NotHeld : PySem.W.kitOne Z.K (.ref C_BadClaim) (.ref C_NotHeld) = some (isE "BadClaim" "NotHeld")
  ke_BadClaim_BadClaim : PySem.W.kitOne Z.K (.ref C_BadClaim) (.ref C_BadClaim) = some (isE "BadClaim" "BadClaim")
  ke_BadClaim_NothingDone : PySem.W.kitOne Z.K (.ref C_BadClaim) (.ref C_NothingDone) = some (isE "BadClaim" "NothingDone")
  kv_BadClaim : PySem.W.kitOne Z.K (.ref C_BadClaim) (.type "ValueError") = some (isE "BadClaim" "ValueError")
  xm_BadClaim : PySem.W.exmOne Z.K (.ref C_BadClaim) (.ref C_LoftError) = some true
  kle_BadClaim : PySem.W.kitOne Z.K (.ref C_BadClaim) (.ref C_LoftError) = some true
  aI_BadLine : Addr
  dI_BadLine : FuncData
  oe_BadLine : OexC Z.K C_BadLine
  xc_BadLine : ExCls Z.K C_BadLine
  if_BadLine : InitF P Z.K C_BadLine aI_BadLine "BadLine.__init__" sI_BadLine dI_BadLine
  ini_BadLine : PySem.W.findIn Z.K (.ref C_BadLine) "__init__" = some (some (.ref aI_BadLine))
  ty_BadLine : PySem.W.typeIn Z.K (.ref aI_BadLine) = some (.type "function")
  bi_BadLine : L2.Binds Z.K dI_BadLine ["self", "line"] []
  nx_BadLine_part : PySem.W.findIn Z.K (.ref C_BadLine) "part" = some none
  nx_BadLine_place : PySem.W.findIn Z.K (.ref C_BadLine) "place" = some none
  nx_BadLine_value : PySem.W.findIn Z.K (.ref C_BadLine) "value" = some none
  nx_BadLine_name : PySem.W.findIn Z.K (.ref C_BadLine) "name" = some none
  nx_BadLine_line : PySem.W.findIn Z.K (.ref C_BadLine) "line" = some none
  ec_BadLine : ExcC Z.K C_BadLine ∧ XfC Z.K C_BadLine
  ke_BadLine_BadRig : PySem.W.kitOne Z.K (.ref C_BadLine) (.ref C_BadRig) = some (isE "BadLine" "BadRig")
  ke_BadLine_BadNumber : PySem.W.kitOne Z.K (.ref C_BadLine) (.ref C_BadNumber) = some (isE "BadLine" "BadNumber")
  ke_BadLine_BadLines : PySem.W.kitOne Z.K (.ref C_BadLine) (.ref C_BadLines) = some (isE "BadLine" "BadLines")
  ke_BadLine_UnknownPoint : PySem.W.kitOne Z.K (.ref C_BadLine) (.ref C_UnknownPoint) = some (isE "BadLine" "UnknownPoint")
  ke_BadLine_UnknownMember : PySem.W.kitOne Z.K (.ref C_BadLine) (.ref C_UnknownMember) = some (isE "BadLine" "UnknownMember")
  ke_BadLine_BadTackle : PySem.W.kitOne Z.K (.ref C_BadLine) (.ref C_BadTackle) = some (isE "BadLine" "BadTackle")
  ke_BadLine_BadPieces : PySem.W.kitOne Z.K (.ref C_BadLine) (.ref C_BadPieces) = some (isE "BadLine" "BadPieces")
  ke_BadLine_BadText : PySem.W.kitOne Z.K (.ref C_BadLine) (.ref C_BadText) = some (isE "BadLine" "BadText")
  ke_BadLine_BadLine : PySem.W.kitOne Z.K (.ref C_BadLine) (.ref C_BadLine) = some (isE "BadLine" "BadLine")
  ke_BadLine_NotHeld : PySem.W.kitOne Z.K (.ref C_BadLine) (.ref C_NotHeld) = some (isE "BadLine" "NotHeld")
  ke_BadLine_BadClaim : PySem.W.kitOne Z.K (.ref C_BadLine) (.ref C_BadClaim) = some (isE "BadLine" "BadClaim")
  ke_BadLine_NothingDone : PySem.W.kitOne Z.K (.ref C_BadLine) (.ref C_NothingDone) = some (isE "BadLine" "NothingDone")
  kv_BadLine : PySem.W.kitOne Z.K (.ref C_BadLine) (.type "ValueError") = some (isE "BadLine" "ValueError")
  xm_BadLine : PySem.W.exmOne Z.K (.ref C_BadLine) (.ref C_LoftError) = some true
  kle_BadLine : PySem.W.kitOne Z.K (.ref C_BadLine) (.ref C_LoftError) = some true
  aI_BadLines : Addr
  dI_BadLines : FuncData
  oe_BadLines : OexC Z.K C_BadLines
  xc_BadLines : ExCls Z.K C_BadLines
  if_BadLines : InitF P Z.K C_BadLines aI_BadLines "BadLines.__init__" sI_BadLines dI_BadLines
  ini_BadLines : PySem.W.findIn Z.K (.ref C_BadLines) "__init__" = some (some (.ref aI_BadLines))
  ty_BadLines : PySem.W.typeIn Z.K (.ref aI_BadLines) = some (.type "function")
  bi_BadLines : L2.Binds Z.K dI_BadLines ["self", "value"] []
  nx_BadLines_part : PySem.W.findIn Z.K (.ref C_BadLines) "part" = some none
  nx_BadLines_place : PySem.W.findIn Z.K (.ref C_BadLines) "place" = some none
  nx_BadLines_value : PySem.W.findIn Z.K (.ref C_BadLines) "value" = some none
  nx_BadLines_name : PySem.W.findIn Z.K (.ref C_BadLines) "name" = some none
  nx_BadLines_line : PySem.W.findIn Z.K (.ref C_BadLines) "line" = some none
  ec_BadLines : ExcC Z.K C_BadLines ∧ XfC Z.K C_BadLines
  ke_BadLines_BadRig : PySem.W.kitOne Z.K (.ref C_BadLines) (.ref C_BadRig) = some (isE "BadLines" "BadRig")
  ke_BadLines_BadNumber : PySem.W.kitOne Z.K (.ref C_BadLines) (.ref C_BadNumber) = some (isE "BadLines" "BadNumber")
  ke_BadLines_BadLines : PySem.W.kitOne Z.K (.ref C_BadLines) (.ref C_BadLines) = some (isE "BadLines" "BadLines")
  ke_BadLines_UnknownPoint : PySem.W.kitOne Z.K (.ref C_BadLines) (.ref C_UnknownPoint) = some (isE "BadLines" "UnknownPoint")
  ke_BadLines_UnknownMember : PySem.W.kitOne Z.K (.ref C_BadLines) (.ref C_UnknownMember) = some (isE "BadLines" "UnknownMember")
  ke_BadLines_BadTackle : PySem.W.kitOne Z.K (.ref C_BadLines) (.ref C_BadTackle) = some (isE "BadLines" "BadTackle")
  ke_BadLines_BadPieces : PySem.W.kitOne Z.K (.ref C_BadLines) (.ref C_BadPieces) = some (isE "BadLines" "BadPieces")
  ke_BadLines_BadText : PySem.W.kitOne Z.K (.ref C_BadLines) (.ref C_BadText) = some (isE "BadLines" "BadText")
  ke_BadLines_BadLine : PySem.W.kitOne Z.K (.ref C_BadLines) (.ref C_BadLine) = some (isE "BadLines" "BadLine")
  ke_BadLines_NotHeld : PySem.W.kitOne Z.K (.ref C_BadLines) (.ref C_NotHeld) = some (isE "BadLines" "NotHeld")
  ke_BadLines_BadClaim : PySem.W.kitOne Z.K (.ref C_BadLines) (.ref C_BadClaim) = some (isE "BadLines" "BadClaim")
  ke_BadLines_NothingDone : PySem.W.kitOne Z.K (.ref C_BadLines) (.ref C_NothingDone) = some (isE "BadLines" "NothingDone")
  kv_BadLines : PySem.W.kitOne Z.K (.ref C_BadLines) (.type "ValueError") = some (isE "BadLines" "ValueError")
  xm_BadLines : PySem.W.exmOne Z.K (.ref C_BadLines) (.ref C_LoftError) = some true
  kle_BadLines : PySem.W.kitOne Z.K (.ref C_BadLines) (.ref C_LoftError) = some true
  aI_BadNumber : Addr
  dI_BadNumber : FuncData
  oe_BadNumber : OexC Z.K C_BadNumber
  xc_BadNumber : ExCls Z.K C_BadNumber
  if_BadNumber : InitF P Z.K C_BadNumber aI_BadNumber "BadNumber.__init__" sI_BadNumber dI_BadNumber
  ini_BadNumber : PySem.W.findIn Z.K (.ref C_BadNumber) "__init__" = some (some (.ref aI_BadNumber))
  ty_BadNumber : PySem.W.typeIn Z.K (.ref aI_BadNumber) = some (.type "function")
  bi_BadNumber : L2.Binds Z.K dI_BadNumber ["self", "value"] []
  nx_BadNumber_part : PySem.W.findIn Z.K (.ref C_BadNumber) "part" = some none
  nx_BadNumber_place : PySem.W.findIn Z.K (.ref C_BadNumber) "place" = some none
  nx_BadNumber_value : PySem.W.findIn Z.K (.ref C_BadNumber) "value" = some none
  nx_BadNumber_name : PySem.W.findIn Z.K (.ref C_BadNumber) "name" = some none
  nx_BadNumber_line : PySem.W.findIn Z.K (.ref C_BadNumber) "line" = some none
  ec_BadNumber : ExcC Z.K C_BadNumber ∧ XfC Z.K C_BadNumber
  ke_BadNumber_BadRig : PySem.W.kitOne Z.K (.ref C_BadNumber) (.ref C_BadRig) = some (isE "BadNumber" "BadRig")
  ke_BadNumber_BadNumber : PySem.W.kitOne Z.K (.ref C_BadNumber) (.ref C_BadNumber) = some (isE "BadNumber" "BadNumber")
  ke_BadNumber_BadLines : PySem.W.kitOne Z.K (.ref C_BadNumber) (.ref C_BadLines) = some (isE "BadNumber" "BadLines")
  ke_BadNumber_UnknownPoint : PySem.W.kitOne Z.K (.ref C_BadNumber) (.ref C_UnknownPoint) = some (isE "BadNumber" "UnknownPoint")
  ke_BadNumber_UnknownMember : PySem.W.kitOne Z.K (.ref C_BadNumber) (.ref C_UnknownMember) = some (isE "BadNumber" "UnknownMember")
  ke_BadNumber_BadTackle : PySem.W.kitOne Z.K (.ref C_BadNumber) (.ref C_BadTackle) = some (isE "BadNumber" "BadTackle")
  ke_BadNumber_BadPieces : PySem.W.kitOne Z.K (.ref C_BadNumber) (.ref C_BadPieces) = some (isE "BadNumber" "BadPieces")
  ke_BadNumber_BadText : PySem.W.kitOne Z.K (.ref C_BadNumber) (.ref C_BadText) = some (isE "BadNumber" "BadText")
  ke_BadNumber_BadLine : PySem.W.kitOne Z.K (.ref C_BadNumber) (.ref C_BadLine) = some (isE "BadNumber" "BadLine")
  ke_BadNumber_NotHeld : PySem.W.kitOne Z.K (.ref C_BadNumber) (.ref C_NotHeld) = some (isE "BadNumber" "NotHeld")
  ke_BadNumber_BadClaim : PySem.W.kitOne Z.K (.ref C_BadNumber) (.ref C_BadClaim) = some (isE "BadNumber" "BadClaim")
  ke_BadNumber_NothingDone : PySem.W.kitOne Z.K (.ref C_BadNumber) (.ref C_NothingDone) = some (isE "BadNumber" "NothingDone")
  kv_BadNumber : PySem.W.kitOne Z.K (.ref C_BadNumber) (.type "ValueError") = some (isE "BadNumber" "ValueError")
  xm_BadNumber : PySem.W.exmOne Z.K (.ref C_BadNumber) (.ref C_LoftError) = some true
  kle_BadNumber : PySem.W.kitOne Z.K (.ref C_BadNumber) (.ref C_LoftError) = some true
  aI_BadPieces : Addr
  dI_BadPieces : FuncData
  oe_BadPieces : OexC Z.K C_BadPieces
  xc_BadPieces : ExCls Z.K C_BadPieces
  if_BadPieces : InitF P Z.K C_BadPieces aI_BadPieces "BadPieces.__init__" sI_BadPieces dI_BadPieces
  ini_BadPieces : PySem.W.findIn Z.K (.ref C_BadPieces) "__init__" = some (some (.ref aI_BadPieces))
  ty_BadPieces : PySem.W.typeIn Z.K (.ref aI_BadPieces) = some (.type "function")
  bi_BadPieces : L2.Binds Z.K dI_BadPieces ["self", "place"] []
  nx_BadPieces_part : PySem.W.findIn Z.K (.ref C_BadPieces) "part" = some none
  nx_BadPieces_place : PySem.W.findIn Z.K (.ref C_BadPieces) "place" = some none
  nx_BadPieces_value : PySem.W.findIn Z.K (.ref C_BadPieces) "value" = some none
  nx_BadPieces_name : PySem.W.findIn Z.K (.ref C_BadPieces) "name" = some none
  nx_BadPieces_line : PySem.W.findIn Z.K (.ref C_BadPieces) "line" = some none
  ec_BadPieces : ExcC Z.K C_BadPieces ∧ XfC Z.K C_BadPieces
  ke_BadPieces_BadRig : PySem.W.kitOne Z.K (.ref C_BadPieces) (.ref C_BadRig) = some (isE "BadPieces" "BadRig")
  ke_BadPieces_BadNumber : PySem.W.kitOne Z.K (.ref C_BadPieces) (.ref C_BadNumber) = some (isE "BadPieces" "BadNumber")
  ke_BadPieces_BadLines : PySem.W.kitOne Z.K (.ref C_BadPieces) (.ref C_BadLines) = some (isE "BadPieces" "BadLines")
  ke_BadPieces_UnknownPoint : PySem.W.kitOne Z.K (.ref C_BadPieces) (.ref C_UnknownPoint) = some (isE "BadPieces" "UnknownPoint")
  ke_BadPieces_UnknownMember : PySem.W.kitOne Z.K (.ref C_BadPieces) (.ref C_UnknownMember) = some (isE "BadPieces" "UnknownMember")
  ke_BadPieces_BadTackle : PySem.W.kitOne Z.K (.ref C_BadPieces) (.ref C_BadTackle) = some (isE "BadPieces" "BadTackle")
  ke_BadPieces_BadPieces : PySem.W.kitOne Z.K (.ref C_BadPieces) (.ref C_BadPieces) = some (isE "BadPieces" "BadPieces")
  ke_BadPieces_BadText : PySem.W.kitOne Z.K (.ref C_BadPieces) (.ref C_BadText) = some (isE "BadPieces" "BadText")
  ke_BadPieces_BadLine : PySem.W.kitOne Z.K (.ref C_BadPieces) (.ref C_BadLine) = some (isE "BadPieces" "BadLine")
  ke_BadPieces_NotHeld : PySem.W.kitOne Z.K (.ref C_BadPieces) (.ref C_NotHeld) = some (isE "BadPieces" "NotHeld")
  ke_BadPieces_BadClaim : PySem.W.kitOne Z.K (.ref C_BadPieces) (.ref C_BadClaim) = some (isE "BadPieces" "BadClaim")
  ke_BadPieces_NothingDone : PySem.W.kitOne Z.K (.ref C_BadPieces) (.ref C_NothingDone) = some (isE "BadPieces" "NothingDone")
  kv_BadPieces : PySem.W.kitOne Z.K (.ref C_BadPieces) (.type "ValueError") = some (isE "BadPieces" "ValueError")
  xm_BadPieces : PySem.W.exmOne Z.K (.ref C_BadPieces) (.ref C_LoftError) = some true
  kle_BadPieces : PySem.W.kitOne Z.K (.ref C_BadPieces) (.ref C_LoftError) = some true
  aI_BadRig : Addr
  dI_BadRig : FuncData
  oe_BadRig : OexC Z.K C_BadRig
  xc_BadRig : ExCls Z.K C_BadRig
  if_BadRig : InitF P Z.K C_BadRig aI_BadRig "BadRig.__init__" sI_BadRig dI_BadRig
  ini_BadRig : PySem.W.findIn Z.K (.ref C_BadRig) "__init__" = some (some (.ref aI_BadRig))
  ty_BadRig : PySem.W.typeIn Z.K (.ref aI_BadRig) = some (.type "function")
  bi_BadRig : L2.Binds Z.K dI_BadRig ["self", "part", "place"] []
  nx_BadRig_part : PySem.W.findIn Z.K (.ref C_BadRig) "part" = some none
  nx_BadRig_place : PySem.W.findIn Z.K (.ref C_BadRig) "place" = some none
  nx_BadRig_value : PySem.W.findIn Z.K (.ref C_BadRig) "value" = some none
  nx_BadRig_name : PySem.W.findIn Z.K (.ref C_BadRig) "name" = some none
  nx_BadRig_line : PySem.W.findIn Z.K (.ref C_BadRig) "line" = some none
  ec_BadRig : ExcC Z.K C_BadRig ∧ XfC Z.K C_BadRig
  ke_BadRig_BadRig : PySem.W.kitOne Z.K (.ref C_BadRig) (.ref C_BadRig) = some (isE "BadRig" "BadRig")
  ke_BadRig_BadNumber : PySem.W.kitOne Z.K (.ref C_BadRig) (.ref C_BadNumber) = some (isE "BadRig" "BadNumber")
  ke_BadRig_BadLines : PySem.W.kitOne Z.K (.ref C_BadRig) (.ref C_BadLines) = some (isE "BadRig" "BadLines")
  ke_BadRig_UnknownPoint : PySem.W.kitOne Z.K (.ref C_BadRig) (.ref C_UnknownPoint) = some (isE "BadRig" "UnknownPoint")
  ke_BadRig_UnknownMember : PySem.W.kitOne Z.K (.ref C_BadRig) (.ref C_UnknownMember) = some (isE "BadRig" "UnknownMember")
  ke_BadRig_BadTackle : PySem.W.kitOne Z.K (.ref C_BadRig) (.ref C_BadTackle) = some (isE "BadRig" "BadTackle")
  ke_BadRig_BadPieces : PySem.W.kitOne Z.K (.ref C_BadRig) (.ref C_BadPieces) = some (isE "BadRig" "BadPieces")
  ke_BadRig_BadText : PySem.W.kitOne Z.K (.ref C_BadRig) (.ref C_BadText) = some (isE "BadRig" "BadText")
  ke_BadRig_BadLine : PySem.W.kitOne Z.K (.ref C_BadRig) (.ref C_BadLine) = some (isE "BadRig" "BadLine")
  ke_BadRig_NotHeld : PySem.W.kitOne Z.K (.ref C_BadRig) (.ref C_NotHeld) = some (isE "BadRig" "NotHeld")
  ke_BadRig_BadClaim : PySem.W.kitOne Z.K (.ref C_BadRig) (.ref C_BadClaim) = some (isE "BadRig" "BadClaim")
  ke_BadRig_NothingDone : PySem.W.kitOne Z.K (.ref C_BadRig) (.ref C_NothingDone) = some (isE "BadRig" "NothingDone")
  kv_BadRig : PySem.W.kitOne Z.K (.ref C_BadRig) (.type "ValueError") = some (isE "BadRig" "ValueError")
  xm_BadRig : PySem.W.exmOne Z.K (.ref C_BadRig) (.ref C_LoftError) = some true
  kle_BadRig : PySem.W.kitOne Z.K (.ref C_BadRig) (.ref C_LoftError) = some true
  aI_BadTackle : Addr
  dI_BadTackle : FuncData
  oe_BadTackle : OexC Z.K C_BadTackle
  xc_BadTackle : ExCls Z.K C_BadTackle
  if_BadTackle : InitF P Z.K C_BadTackle aI_BadTackle "BadTackle.__init__" sI_BadTackle dI_BadTackle
  ini_BadTackle : PySem.W.findIn Z.K (.ref C_BadTackle) "__init__" = some (some (.ref aI_BadTackle))
  ty_BadTackle : PySem.W.typeIn Z.K (.ref aI_BadTackle) = some (.type "function")
  bi_BadTackle : L2.Binds Z.K dI_BadTackle ["self", "place"] []
  nx_BadTackle_part : PySem.W.findIn Z.K (.ref C_BadTackle) "part" = some none
  nx_BadTackle_place : PySem.W.findIn Z.K (.ref C_BadTackle) "place" = some none
  nx_BadTackle_value : PySem.W.findIn Z.K (.ref C_BadTackle) "value" = some none
  nx_BadTackle_name : PySem.W.findIn Z.K (.ref C_BadTackle) "name" = some none
  nx_BadTackle_line : PySem.W.findIn Z.K (.ref C_BadTackle) "line" = some none
  ec_BadTackle : ExcC Z.K C_BadTackle ∧ XfC Z.K C_BadTackle
  ke_BadTackle_BadRig : PySem.W.kitOne Z.K (.ref C_BadTackle) (.ref C_BadRig) = some (isE "BadTackle" "BadRig")
  ke_BadTackle_BadNumber : PySem.W.kitOne Z.K (.ref C_BadTackle) (.ref C_BadNumber) = some (isE "BadTackle" "BadNumber")
  ke_BadTackle_BadLines : PySem.W.kitOne Z.K (.ref C_BadTackle) (.ref C_BadLines) = some (isE "BadTackle" "BadLines")
  ke_BadTackle_UnknownPoint : PySem.W.kitOne Z.K (.ref C_BadTackle) (.ref C_UnknownPoint) = some (isE "BadTackle" "UnknownPoint")
  ke_BadTackle_UnknownMember : PySem.W.kitOne Z.K (.ref C_BadTackle) (.ref C_UnknownMember) = some (isE "BadTackle" "UnknownMember")
  ke_BadTackle_BadTackle : PySem.W.kitOne Z.K (.ref C_BadTackle) (.ref C_BadTackle) = some (isE "BadTackle" "BadTackle")
  ke_BadTackle_BadPieces : PySem.W.kitOne Z.K (.ref C_BadTackle) (.ref C_BadPieces) = some (isE "BadTackle" "BadPieces")
  ke_BadTackle_BadText : PySem.W.kitOne Z.K (.ref C_BadTackle) (.ref C_BadText) = some (isE "BadTackle" "BadText")
  ke_BadTackle_BadLine : PySem.W.kitOne Z.K (.ref C_BadTackle) (.ref C_BadLine) = some (isE "BadTackle" "BadLine")
  ke_BadTackle_NotHeld : PySem.W.kitOne Z.K (.ref C_BadTackle) (.ref C_NotHeld) = some (isE "BadTackle" "NotHeld")
  ke_BadTackle_BadClaim : PySem.W.kitOne Z.K (.ref C_BadTackle) (.ref C_BadClaim) = some (isE "BadTackle" "BadClaim")
  ke_BadTackle_NothingDone : PySem.W.kitOne Z.K (.ref C_BadTackle) (.ref C_NothingDone) = some (isE "BadTackle" "NothingDone")
  kv_BadTackle : PySem.W.kitOne Z.K (.ref C_BadTackle) (.type "ValueError") = some (isE "BadTackle" "ValueError")
  xm_BadTackle : PySem.W.exmOne Z.K (.ref C_BadTackle) (.ref C_LoftError) = some true
  kle_BadTackle : PySem.W.kitOne Z.K (.ref C_BadTackle) (.ref C_LoftError) = some true
  aI_BadText : Addr
  dI_BadText : FuncData
  oe_BadText : OexC Z.K C_BadText
  xc_BadText : ExCls Z.K C_BadText
  if_BadText : InitF P Z.K C_BadText aI_BadText "BadText.__init__" sI_BadText dI_BadText
  ini_BadText : PySem.W.findIn Z.K (.ref C_BadText) "__init__" = some (some (.ref aI_BadText))
  ty_BadText : PySem.W.typeIn Z.K (.ref aI_BadText) = some (.type "function")
  bi_BadText : L2.Binds Z.K dI_BadText ["self", "line"] []
  nx_BadText_part : PySem.W.findIn Z.K (.ref C_BadText) "part" = some none
  nx_BadText_place : PySem.W.findIn Z.K (.ref C_BadText) "place" = some none
  nx_BadText_value : PySem.W.findIn Z.K (.ref C_BadText) "value" = some none
  nx_BadText_name : PySem.W.findIn Z.K (.ref C_BadText) "name" = some none
  nx_BadText_line : PySem.W.findIn Z.K (.ref C_BadText) "line" = some none
  ec_BadText : ExcC Z.K C_BadText ∧ XfC Z.K C_BadText
  ke_BadText_BadRig : PySem.W.kitOne Z.K (.ref C_BadText) (.ref C_BadRig) = some (isE "BadText" "BadRig")
  ke_BadText_BadNumber : PySem.W.kitOne Z.K (.ref C_BadText) (.ref C_BadNumber) = some (isE "BadText" "BadNumber")
  ke_BadText_BadLines : PySem.W.kitOne Z.K (.ref C_BadText) (.ref C_BadLines) = some (isE "BadText" "BadLines")
  ke_BadText_UnknownPoint : PySem.W.kitOne Z.K (.ref C_BadText) (.ref C_UnknownPoint) = some (isE "BadText" "UnknownPoint")
  ke_BadText_UnknownMember : PySem.W.kitOne Z.K (.ref C_BadText) (.ref C_UnknownMember) = some (isE "BadText" "UnknownMember")
  ke_BadText_BadTackle : PySem.W.kitOne Z.K (.ref C_BadText) (.ref C_BadTackle) = some (isE "BadText" "BadTackle")
  ke_BadText_BadPieces : PySem.W.kitOne Z.K (.ref C_BadText) (.ref C_BadPieces) = some (isE "BadText" "BadPieces")
  ke_BadText_BadText : PySem.W.kitOne Z.K (.ref C_BadText) (.ref C_BadText) = some (isE "BadText" "BadText")
  ke_BadText_BadLine : PySem.W.kitOne Z.K (.ref C_BadText) (.ref C_BadLine) = some (isE "BadText" "BadLine")
  ke_BadText_NotHeld : PySem.W.kitOne Z.K (.ref C_BadText) (.ref C_NotHeld) = some (isE "BadText" "NotHeld")
  ke_BadText_BadClaim : PySem.W.kitOne Z.K (.ref C_BadText) (.ref C_BadClaim) = some (isE "BadText" "BadClaim")
  ke_BadText_NothingDone : PySem.W.kitOne Z.K (.ref C_BadText) (.ref C_NothingDone) = some (isE "BadText" "NothingDone")
  kv_BadText : PySem.W.kitOne Z.K (.ref C_BadText) (.type "ValueError") = some (isE "BadText" "ValueError")
  xm_BadText : PySem.W.exmOne Z.K (.ref C_BadText) (.ref C_LoftError) = some true
  kle_BadText : PySem.W.kitOne Z.K (.ref C_BadText) (.ref C_LoftError) = some true
  aI_NotHeld : Addr
  dI_NotHeld : FuncData
  oe_NotHeld : OexC Z.K C_NotHeld
  xc_NotHeld : ExCls Z.K C_NotHeld
  if_NotHeld : InitF P Z.K C_NotHeld aI_NotHeld "NotHeld.__init__" sI_NotHeld dI_NotHeld
  ini_NotHeld : PySem.W.findIn Z.K (.ref C_NotHeld) "__init__" = some (some (.ref aI_NotHeld))
  ty_NotHeld : PySem.W.typeIn Z.K (.ref aI_NotHeld) = some (.type "function")
  bi_NotHeld : L2.Binds Z.K dI_NotHeld ["self"] []
  nx_NotHeld_part : PySem.W.findIn Z.K (.ref C_NotHeld) "part" = some none
  nx_NotHeld_place : PySem.W.findIn Z.K (.ref C_NotHeld) "place" = some none
  nx_NotHeld_value : PySem.W.findIn Z.K (.ref C_NotHeld) "value" = some none
  nx_NotHeld_name : PySem.W.findIn Z.K (.ref C_NotHeld) "name" = some none
  nx_NotHeld_line : PySem.W.findIn Z.K (.ref C_NotHeld) "line" = some none
  ec_NotHeld : ExcC Z.K C_NotHeld ∧ XfC Z.K C_NotHeld
  ke_NotHeld_BadRig : PySem.W.kitOne Z.K (.ref C_NotHeld) (.ref C_BadRig) = some (isE "NotHeld" "BadRig")
  ke_NotHeld_BadNumber : PySem.W.kitOne Z.K (.ref C_NotHeld) (.ref C_BadNumber) = some (isE "NotHeld" "BadNumber")
  ke_NotHeld_BadLines : PySem.W.kitOne Z.K (.ref C_NotHeld) (.ref C_BadLines) = some (isE "NotHeld" "BadLines")
  ke_NotHeld_UnknownPoint : PySem.W.kitOne Z.K (.ref C_NotHeld) (.ref C_UnknownPoint) = some (isE "NotHeld" "UnknownPoint")
  ke_NotHeld_UnknownMember : PySem.W.kitOne Z.K (.ref C_NotHeld) (.ref C_UnknownMember) = some (isE "NotHeld" "UnknownMember")
  ke_NotHeld_BadTackle : PySem.W.kitOne Z.K (.ref C_NotHeld) (.ref C_BadTackle) = some (isE "NotHeld" "BadTackle")
  ke_NotHeld_BadPieces : PySem.W.kitOne Z.K (.ref C_NotHeld) (.ref C_BadPieces) = some (isE "NotHeld" "BadPieces")
  ke_NotHeld_BadText : PySem.W.kitOne Z.K (.ref C_NotHeld) (.ref C_BadText) = some (isE "NotHeld" "BadText")
  ke_NotHeld_BadLine : PySem.W.kitOne Z.K (.ref C_NotHeld) (.ref C_BadLine) = some (isE "NotHeld" "BadLine")
  ke_NotHeld_NotHeld : PySem.W.kitOne Z.K (.ref C_NotHeld) (.ref C_NotHeld) = some (isE "NotHeld" "NotHeld")
  ke_NotHeld_BadClaim : PySem.W.kitOne Z.K (.ref C_NotHeld) (.ref C_BadClaim) = some (isE "NotHeld" "BadClaim")
  ke_NotHeld_NothingDone : PySem.W.kitOne Z.K (.ref C_NotHeld) (.ref C_NothingDone) = some (isE "NotHeld" "NothingDone")
  kv_NotHeld : PySem.W.kitOne Z.K (.ref C_NotHeld) (.type "ValueError") = some (isE "NotHeld" "ValueError")
  xm_NotHeld : PySem.W.exmOne Z.K (.ref C_NotHeld) (.ref C_LoftError) = some true
  kle_NotHeld : PySem.W.kitOne Z.K (.ref C_NotHeld) (.ref C_LoftError) = some true
  aI_NothingDone : Addr
  dI_NothingDone : FuncData
  oe_NothingDone : OexC Z.K C_NothingDone
  xc_NothingDone : ExCls Z.K C_NothingDone
  if_NothingDone : InitF P Z.K C_NothingDone aI_NothingDone "NothingDone.__init__" sI_NothingDone dI_NothingDone
  ini_NothingDone : PySem.W.findIn Z.K (.ref C_NothingDone) "__init__" = some (some (.ref aI_NothingDone))
  ty_NothingDone : PySem.W.typeIn Z.K (.ref aI_NothingDone) = some (.type "function")
  bi_NothingDone : L2.Binds Z.K dI_NothingDone ["self"] []
  nx_NothingDone_part : PySem.W.findIn Z.K (.ref C_NothingDone) "part" = some none
  nx_NothingDone_place : PySem.W.findIn Z.K (.ref C_NothingDone) "place" = some none
  nx_NothingDone_value : PySem.W.findIn Z.K (.ref C_NothingDone) "value" = some none
  nx_NothingDone_name : PySem.W.findIn Z.K (.ref C_NothingDone) "name" = some none
  nx_NothingDone_line : PySem.W.findIn Z.K (.ref C_NothingDone) "line" = some none
  ec_NothingDone : ExcC Z.K C_NothingDone ∧ XfC Z.K C_NothingDone
  ke_NothingDone_BadRig : PySem.W.kitOne Z.K (.ref C_NothingDone) (.ref C_BadRig) = some (isE "NothingDone" "BadRig")
  ke_NothingDone_BadNumber : PySem.W.kitOne Z.K (.ref C_NothingDone) (.ref C_BadNumber) = some (isE "NothingDone" "BadNumber")
  ke_NothingDone_BadLines : PySem.W.kitOne Z.K (.ref C_NothingDone) (.ref C_BadLines) = some (isE "NothingDone" "BadLines")
  ke_NothingDone_UnknownPoint : PySem.W.kitOne Z.K (.ref C_NothingDone) (.ref C_UnknownPoint) = some (isE "NothingDone" "UnknownPoint")
  ke_NothingDone_UnknownMember : PySem.W.kitOne Z.K (.ref C_NothingDone) (.ref C_UnknownMember) = some (isE "NothingDone" "UnknownMember")
  ke_NothingDone_BadTackle : PySem.W.kitOne Z.K (.ref C_NothingDone) (.ref C_BadTackle) = some (isE "NothingDone" "BadTackle")
  ke_NothingDone_BadPieces : PySem.W.kitOne Z.K (.ref C_NothingDone) (.ref C_BadPieces) = some (isE "NothingDone" "BadPieces")
  ke_NothingDone_BadText : PySem.W.kitOne Z.K (.ref C_NothingDone) (.ref C_BadText) = some (isE "NothingDone" "BadText")
  ke_NothingDone_BadLine : PySem.W.kitOne Z.K (.ref C_NothingDone) (.ref C_BadLine) = some (isE "NothingDone" "BadLine")
  ke_NothingDone_NotHeld : PySem.W.kitOne Z.K (.ref C_NothingDone) (.ref C_NotHeld) = some (isE "NothingDone" "NotHeld")
  ke_NothingDone_BadClaim : PySem.W.kitOne Z.K (.ref C_NothingDone) (.ref C_BadClaim) = some (isE "NothingDone" "BadClaim")
  ke_NothingDone_NothingDone : PySem.W.kitOne Z.K (.ref C_NothingDone) (.ref C_NothingDone) = some (isE "NothingDone" "NothingDone")
  kv_NothingDone : PySem.W.kitOne Z.K (.ref C_NothingDone) (.type "ValueError") = some (isE "NothingDone" "ValueError")
  xm_NothingDone : PySem.W.exmOne Z.K (.ref C_NothingDone) (.ref C_LoftError) = some true
  kle_NothingDone : PySem.W.kitOne Z.K (.ref C_NothingDone) (.ref C_LoftError) = some true
  aI_UnknownMember : Addr
  dI_UnknownMember : FuncData
  oe_UnknownMember : OexC Z.K C_UnknownMember
  xc_UnknownMember : ExCls Z.K C_UnknownMember
  if_UnknownMember : InitF P Z.K C_UnknownMember aI_UnknownMember "UnknownMember.__init__" sI_UnknownMember dI_UnknownMember
  ini_UnknownMember : PySem.W.findIn Z.K (.ref C_UnknownMember) "__init__" = some (some (.ref aI_UnknownMember))
  ty_UnknownMember : PySem.W.typeIn Z.K (.ref aI_UnknownMember) = some (.type "function")
  bi_UnknownMember : L2.Binds Z.K dI_UnknownMember ["self", "name"] []
  nx_UnknownMember_part : PySem.W.findIn Z.K (.ref C_UnknownMember) "part" = some none
  nx_UnknownMember_place : PySem.W.findIn Z.K (.ref C_UnknownMember) "place" = some none
  nx_UnknownMember_value : PySem.W.findIn Z.K (.ref C_UnknownMember) "value" = some none
  nx_UnknownMember_name : PySem.W.findIn Z.K (.ref C_UnknownMember) "name" = some none
  nx_UnknownMember_line : PySem.W.findIn Z.K (.ref C_UnknownMember) "line" = some none
  ec_UnknownMember : ExcC Z.K C_UnknownMember ∧ XfC Z.K C_UnknownMember
  ke_UnknownMember_BadRig : PySem.W.kitOne Z.K (.ref C_UnknownMember) (.ref C_BadRig) = some (isE "UnknownMember" "BadRig")
  ke_UnknownMember_BadNumber : PySem.W.kitOne Z.K (.ref C_UnknownMember) (.ref C_BadNumber) = some (isE "UnknownMember" "BadNumber")
  ke_UnknownMember_BadLines : PySem.W.kitOne Z.K (.ref C_UnknownMember) (.ref C_BadLines) = some (isE "UnknownMember" "BadLines")
  ke_UnknownMember_UnknownPoint : PySem.W.kitOne Z.K (.ref C_UnknownMember) (.ref C_UnknownPoint) = some (isE "UnknownMember" "UnknownPoint")
  ke_UnknownMember_UnknownMember : PySem.W.kitOne Z.K (.ref C_UnknownMember) (.ref C_UnknownMember) = some (isE "UnknownMember" "UnknownMember")
  ke_UnknownMember_BadTackle : PySem.W.kitOne Z.K (.ref C_UnknownMember) (.ref C_BadTackle) = some (isE "UnknownMember" "BadTackle")
  ke_UnknownMember_BadPieces : PySem.W.kitOne Z.K (.ref C_UnknownMember) (.ref C_BadPieces) = some (isE "UnknownMember" "BadPieces")
  ke_UnknownMember_BadText : PySem.W.kitOne Z.K (.ref C_UnknownMember) (.ref C_BadText) = some (isE "UnknownMember" "BadText")
  ke_UnknownMember_BadLine : PySem.W.kitOne Z.K (.ref C_UnknownMember) (.ref C_BadLine) = some (isE "UnknownMember" "BadLine")
  ke_UnknownMember_NotHeld : PySem.W.kitOne Z.K (.ref C_UnknownMember) (.ref C_NotHeld) = some (isE "UnknownMember" "NotHeld")
  ke_UnknownMember_BadClaim : PySem.W.kitOne Z.K (.ref C_UnknownMember) (.ref C_BadClaim) = some (isE "UnknownMember" "BadClaim")
  ke_UnknownMember_NothingDone : PySem.W.kitOne Z.K (.ref C_UnknownMember) (.ref C_NothingDone) = some (isE "UnknownMember" "NothingDone")
  kv_UnknownMember : PySem.W.kitOne Z.K (.ref C_UnknownMember) (.type "ValueError") = some (isE "UnknownMember" "ValueError")
  xm_UnknownMember : PySem.W.exmOne Z.K (.ref C_UnknownMember) (.ref C_LoftError) = some true
  kle_UnknownMember : PySem.W.kitOne Z.K (.ref C_UnknownMember) (.ref C_LoftError) = some true
  aI_UnknownPoint : Addr
  dI_UnknownPoint : FuncData
  oe_UnknownPoint : OexC Z.K C_UnknownPoint
  xc_UnknownPoint : ExCls Z.K C_UnknownPoint
  if_UnknownPoint : InitF P Z.K C_UnknownPoint aI_UnknownPoint "UnknownPoint.__init__" sI_UnknownPoint dI_UnknownPoint
  ini_UnknownPoint : PySem.W.findIn Z.K (.ref C_UnknownPoint) "__init__" = some (some (.ref aI_UnknownPoint))
  ty_UnknownPoint : PySem.W.typeIn Z.K (.ref aI_UnknownPoint) = some (.type "function")
  bi_UnknownPoint : L2.Binds Z.K dI_UnknownPoint ["self", "name"] []
  nx_UnknownPoint_part : PySem.W.findIn Z.K (.ref C_UnknownPoint) "part" = some none
  nx_UnknownPoint_place : PySem.W.findIn Z.K (.ref C_UnknownPoint) "place" = some none
  nx_UnknownPoint_value : PySem.W.findIn Z.K (.ref C_UnknownPoint) "value" = some none
  nx_UnknownPoint_name : PySem.W.findIn Z.K (.ref C_UnknownPoint) "name" = some none
  nx_UnknownPoint_line : PySem.W.findIn Z.K (.ref C_UnknownPoint) "line" = some none
  ec_UnknownPoint : ExcC Z.K C_UnknownPoint ∧ XfC Z.K C_UnknownPoint
  ke_UnknownPoint_BadRig : PySem.W.kitOne Z.K (.ref C_UnknownPoint) (.ref C_BadRig) = some (isE "UnknownPoint" "BadRig")
  ke_UnknownPoint_BadNumber : PySem.W.kitOne Z.K (.ref C_UnknownPoint) (.ref C_BadNumber) = some (isE "UnknownPoint" "BadNumber")
  ke_UnknownPoint_BadLines : PySem.W.kitOne Z.K (.ref C_UnknownPoint) (.ref C_BadLines) = some (isE "UnknownPoint" "BadLines")
  ke_UnknownPoint_UnknownPoint : PySem.W.kitOne Z.K (.ref C_UnknownPoint) (.ref C_UnknownPoint) = some (isE "UnknownPoint" "UnknownPoint")
  ke_UnknownPoint_UnknownMember : PySem.W.kitOne Z.K (.ref C_UnknownPoint) (.ref C_UnknownMember) = some (isE "UnknownPoint" "UnknownMember")
  ke_UnknownPoint_BadTackle : PySem.W.kitOne Z.K (.ref C_UnknownPoint) (.ref C_BadTackle) = some (isE "UnknownPoint" "BadTackle")
  ke_UnknownPoint_BadPieces : PySem.W.kitOne Z.K (.ref C_UnknownPoint) (.ref C_BadPieces) = some (isE "UnknownPoint" "BadPieces")
  ke_UnknownPoint_BadText : PySem.W.kitOne Z.K (.ref C_UnknownPoint) (.ref C_BadText) = some (isE "UnknownPoint" "BadText")
  ke_UnknownPoint_BadLine : PySem.W.kitOne Z.K (.ref C_UnknownPoint) (.ref C_BadLine) = some (isE "UnknownPoint" "BadLine")
  ke_UnknownPoint_NotHeld : PySem.W.kitOne Z.K (.ref C_UnknownPoint) (.ref C_NotHeld) = some (isE "UnknownPoint" "NotHeld")
  ke_UnknownPoint_BadClaim : PySem.W.kitOne Z.K (.ref C_UnknownPoint) (.ref C_BadClaim) = some (isE "UnknownPoint" "BadClaim")
  ke_UnknownPoint_NothingDone : PySem.W.kitOne Z.K (.ref C_UnknownPoint) (.ref C_NothingDone) = some (isE "UnknownPoint" "NothingDone")
  kv_UnknownPoint : PySem.W.kitOne Z.K (.ref C_UnknownPoint) (.type "ValueError") = some (isE "UnknownPoint" "ValueError")
  xm_UnknownPoint : PySem.W.exmOne Z.K (.ref C_UnknownPoint) (.ref C_LoftError) = some true
  kle_UnknownPoint : PySem.W.kitOne Z.K (.ref C_UnknownPoint) (.ref C_LoftError) = some true
  a__law_taken : Addr
  d__law_taken : FuncData
  F__law_taken : Fun Z.K "_law_taken" "_law_taken" s__law_taken a__law_taken d__law_taken
  b__law_taken : Binds Z.K d__law_taken ["row", "many"] []
  g__law_taken : Z.mg "_law_taken" = some (.ref a__law_taken)
  a__law_same : Addr
  d__law_same : FuncData
  F__law_same : Fun Z.K "_law_same" "_law_same" s__law_same a__law_same d__law_same
  b__law_same : Binds Z.K d__law_same ["found", "due"] []
  g__law_same : Z.mg "_law_same" = some (.ref a__law_same)
  a__law_refusal : Addr
  d__law_refusal : FuncData
  F__law_refusal : Fun Z.K "_law_refusal" "_law_refusal" s__law_refusal a__law_refusal d__law_refusal
  b__law_refusal : Binds Z.K d__law_refusal ["e"] []
  g__law_refusal : Z.mg "_law_refusal" = some (.ref a__law_refusal)
  a__law_pick : Addr
  d__law_pick : FuncData
  F__law_pick : Fun Z.K "_law_pick" "_law_pick" s__law_pick a__law_pick d__law_pick
  b__law_pick : Binds Z.K d__law_pick ["row", "things"] []
  g__law_pick : Z.mg "_law_pick" = some (.ref a__law_pick)
  a_law : Addr
  d_law : FuncData
  F_law : Fun Z.K "law" "law" s_law a_law d_law
  b_law : Binds Z.K d_law ["script"] []
  g_law : Z.mg "law" = some (.ref a_law)
section
variable {P : Program} {w : World} {Z : Zt} {base : Heap}
theorem okI_BadClaim (T : Top P Z base) : FnOk P w Z.K Z.mg base (L2.CX P w) 1 T.aI_BadClaim T.dI_BadClaim ["self"] (spI0 T.C_BadClaim) := by
  have h := is_BadClaim
  exact init0 T.if_BadClaim T.xc_BadClaim T.ns_super h
theorem okI_BadLine (T : Top P Z base) : FnOk P w Z.K Z.mg base (L2.CX P w) 1 T.aI_BadLine T.dI_BadLine ["self", "line"] (spI1 T.C_BadLine "line") := by
  obtain ⟨q0, q1, q2, q3, h⟩ := is_BadLine
  exact init1 T.if_BadLine T.xc_BadLine T.ns_super h T.nx_BadLine_line rfl rfl (fun _ => rfl)
theorem okI_BadLines (T : Top P Z base) : FnOk P w Z.K Z.mg base (L2.CX P w) 1 T.aI_BadLines T.dI_BadLines ["self", "value"] (spI1 T.C_BadLines "value") := by
  obtain ⟨q0, q1, q2, q3, h⟩ := is_BadLines
  exact init1 T.if_BadLines T.xc_BadLines T.ns_super h T.nx_BadLines_value rfl rfl (fun _ => rfl)
theorem okI_BadNumber (T : Top P Z base) : FnOk P w Z.K Z.mg base (L2.CX P w) 1 T.aI_BadNumber T.dI_BadNumber ["self", "value"] (spI1 T.C_BadNumber "value") := by
  obtain ⟨q0, q1, q2, q3, h⟩ := is_BadNumber
  exact init1 T.if_BadNumber T.xc_BadNumber T.ns_super h T.nx_BadNumber_value rfl rfl (fun _ => rfl)
theorem okI_BadPieces (T : Top P Z base) : FnOk P w Z.K Z.mg base (L2.CX P w) 1 T.aI_BadPieces T.dI_BadPieces ["self", "place"] (spI1 T.C_BadPieces "place") := by
  obtain ⟨q0, q1, q2, q3, h⟩ := is_BadPieces
  exact init1 T.if_BadPieces T.xc_BadPieces T.ns_super h T.nx_BadPieces_place rfl rfl (fun _ => rfl)
theorem okI_BadRig (T : Top P Z base) : FnOk P w Z.K Z.mg base (L2.CX P w) 1 T.aI_BadRig T.dI_BadRig ["self", "part", "place"] (spI2 T.C_BadRig "part" "place") := by
  obtain ⟨q0, q1, q2, q3, q4, q5, q6, q7, h⟩ := is_BadRig
  exact init2 T.if_BadRig T.xc_BadRig T.ns_super h T.nx_BadRig_part rfl rfl T.nx_BadRig_place rfl rfl (fun _ => rfl) (fun _ => rfl)
theorem okI_BadTackle (T : Top P Z base) : FnOk P w Z.K Z.mg base (L2.CX P w) 1 T.aI_BadTackle T.dI_BadTackle ["self", "place"] (spI1 T.C_BadTackle "place") := by
  obtain ⟨q0, q1, q2, q3, h⟩ := is_BadTackle
  exact init1 T.if_BadTackle T.xc_BadTackle T.ns_super h T.nx_BadTackle_place rfl rfl (fun _ => rfl)
theorem okI_BadText (T : Top P Z base) : FnOk P w Z.K Z.mg base (L2.CX P w) 1 T.aI_BadText T.dI_BadText ["self", "line"] (spI1 T.C_BadText "line") := by
  obtain ⟨q0, q1, q2, q3, h⟩ := is_BadText
  exact init1 T.if_BadText T.xc_BadText T.ns_super h T.nx_BadText_line rfl rfl (fun _ => rfl)
theorem okI_NotHeld (T : Top P Z base) : FnOk P w Z.K Z.mg base (L2.CX P w) 1 T.aI_NotHeld T.dI_NotHeld ["self"] (spI0 T.C_NotHeld) := by
  have h := is_NotHeld
  exact init0 T.if_NotHeld T.xc_NotHeld T.ns_super h
theorem okI_NothingDone (T : Top P Z base) : FnOk P w Z.K Z.mg base (L2.CX P w) 1 T.aI_NothingDone T.dI_NothingDone ["self"] (spI0 T.C_NothingDone) := by
  have h := is_NothingDone
  exact init0 T.if_NothingDone T.xc_NothingDone T.ns_super h
theorem okI_UnknownMember (T : Top P Z base) : FnOk P w Z.K Z.mg base (L2.CX P w) 1 T.aI_UnknownMember T.dI_UnknownMember ["self", "name"] (spI1 T.C_UnknownMember "name") := by
  obtain ⟨q0, q1, q2, q3, h⟩ := is_UnknownMember
  exact init1 T.if_UnknownMember T.xc_UnknownMember T.ns_super h T.nx_UnknownMember_name rfl rfl (fun _ => rfl)
theorem okI_UnknownPoint (T : Top P Z base) : FnOk P w Z.K Z.mg base (L2.CX P w) 1 T.aI_UnknownPoint T.dI_UnknownPoint ["self", "name"] (spI1 T.C_UnknownPoint "name") := by
  obtain ⟨q0, q1, q2, q3, h⟩ := is_UnknownPoint
  exact init1 T.if_UnknownPoint T.xc_UnknownPoint T.ns_super h T.nx_UnknownPoint_name rfl rfl (fun _ => rfl)
theorem rc_BadClaim (T : Top P Z base) : ∀ CE : Addr, Z.mg "BadClaim" = some (.ref CE) → RefC Z "BadClaim" CE askedL fieldL (isE "BadClaim") := fun CE h => by
  have q := T.g_BadClaim.symm.trans h
  cases q
  refine ⟨T.ec_BadClaim.1, T.ec_BadClaim.2, fun n hn C' hm => ?_, T.kv_BadClaim, fun f hf => ?_⟩
  · simp only [askedL, List.mem_cons, List.not_mem_nil, or_false] at hn
    rcases hn with rfl | rfl | rfl | rfl | rfl | rfl | rfl | rfl | rfl | rfl | rfl | rfl
    · have q := T.g_BadRig.symm.trans hm
      cases q
      exact T.ke_BadClaim_BadRig
    · have q := T.g_BadNumber.symm.trans hm
      cases q
      exact T.ke_BadClaim_BadNumber
    · have q := T.g_BadLines.symm.trans hm
      cases q
      exact T.ke_BadClaim_BadLines
    · have q := T.g_UnknownPoint.symm.trans hm
      cases q
      exact T.ke_BadClaim_UnknownPoint
    · have q := T.g_UnknownMember.symm.trans hm
      cases q
      exact T.ke_BadClaim_UnknownMember
    · have q := T.g_BadTackle.symm.trans hm
      cases q
      exact T.ke_BadClaim_BadTackle
    · have q := T.g_BadPieces.symm.trans hm
      cases q
      exact T.ke_BadClaim_BadPieces
    · have q := T.g_BadText.symm.trans hm
      cases q
      exact T.ke_BadClaim_BadText
    · have q := T.g_BadLine.symm.trans hm
      cases q
      exact T.ke_BadClaim_BadLine
    · have q := T.g_NotHeld.symm.trans hm
      cases q
      exact T.ke_BadClaim_NotHeld
    · have q := T.g_BadClaim.symm.trans hm
      cases q
      exact T.ke_BadClaim_BadClaim
    · have q := T.g_NothingDone.symm.trans hm
      cases q
      exact T.ke_BadClaim_NothingDone
  · simp only [fieldL, List.mem_cons, List.not_mem_nil, or_false] at hf
    rcases hf with rfl | rfl | rfl | rfl | rfl
    · exact T.nx_BadClaim_part
    · exact T.nx_BadClaim_place
    · exact T.nx_BadClaim_value
    · exact T.nx_BadClaim_name
    · exact T.nx_BadClaim_line
theorem rc_BadLine (T : Top P Z base) : ∀ CE : Addr, Z.mg "BadLine" = some (.ref CE) → RefC Z "BadLine" CE askedL fieldL (isE "BadLine") := fun CE h => by
  have q := T.g_BadLine.symm.trans h
  cases q
  refine ⟨T.ec_BadLine.1, T.ec_BadLine.2, fun n hn C' hm => ?_, T.kv_BadLine, fun f hf => ?_⟩
  · simp only [askedL, List.mem_cons, List.not_mem_nil, or_false] at hn
    rcases hn with rfl | rfl | rfl | rfl | rfl | rfl | rfl | rfl | rfl | rfl | rfl | rfl
    · have q := T.g_BadRig.symm.trans hm
      cases q
      exact T.ke_BadLine_BadRig
    · have q := T.g_BadNumber.symm.trans hm
      cases q
      exact T.ke_BadLine_BadNumber
    · have q := T.g_BadLines.symm.trans hm
      cases q
      exact T.ke_BadLine_BadLines
    · have q := T.g_UnknownPoint.symm.trans hm
      cases q
      exact T.ke_BadLine_UnknownPoint
    · have q := T.g_UnknownMember.symm.trans hm
      cases q
      exact T.ke_BadLine_UnknownMember
    · have q := T.g_BadTackle.symm.trans hm
      cases q
      exact T.ke_BadLine_BadTackle
    · have q := T.g_BadPieces.symm.trans hm
      cases q
      exact T.ke_BadLine_BadPieces
    · have q := T.g_BadText.symm.trans hm
      cases q
      exact T.ke_BadLine_BadText
    · have q := T.g_BadLine.symm.trans hm
      cases q
      exact T.ke_BadLine_BadLine
    · have q := T.g_NotHeld.symm.trans hm
      cases q
      exact T.ke_BadLine_NotHeld
    · have q := T.g_BadClaim.symm.trans hm
      cases q
      exact T.ke_BadLine_BadClaim
    · have q := T.g_NothingDone.symm.trans hm
      cases q
      exact T.ke_BadLine_NothingDone
  · simp only [fieldL, List.mem_cons, List.not_mem_nil, or_false] at hf
    rcases hf with rfl | rfl | rfl | rfl | rfl
    · exact T.nx_BadLine_part
    · exact T.nx_BadLine_place
    · exact T.nx_BadLine_value
    · exact T.nx_BadLine_name
    · exact T.nx_BadLine_line
theorem rc_BadLines (T : Top P Z base) : ∀ CE : Addr, Z.mg "BadLines" = some (.ref CE) → RefC Z "BadLines" CE askedL fieldL (isE "BadLines") := fun CE h => by
  have q := T.g_BadLines.symm.trans h
  cases q
  refine ⟨T.ec_BadLines.1, T.ec_BadLines.2, fun n hn C' hm => ?_, T.kv_BadLines, fun f hf => ?_⟩
  · simp only [askedL, List.mem_cons, List.not_mem_nil, or_false] at hn
    rcases hn with rfl | rfl | rfl | rfl | rfl | rfl | rfl | rfl | rfl | rfl | rfl | rfl
    · have q := T.g_BadRig.symm.trans hm
      cases q
      exact T.ke_BadLines_BadRig
    · have q := T.g_BadNumber.symm.trans hm
      cases q
      exact T.ke_BadLines_BadNumber
    · have q := T.g_BadLines.symm.trans hm
      cases q
      exact T.ke_BadLines_BadLines
    · have q := T.g_UnknownPoint.symm.trans hm
      cases q
      exact T.ke_BadLines_UnknownPoint
    · have q := T.g_UnknownMember.symm.trans hm
      cases q
      exact T.ke_BadLines_UnknownMember
    · have q := T.g_BadTackle.symm.trans hm
      cases q
      exact T.ke_BadLines_BadTackle
    · have q := T.g_BadPieces.symm.trans hm
      cases q
      exact T.ke_BadLines_BadPieces
    · have q := T.g_BadText.symm.trans hm
      cases q
      exact T.ke_BadLines_BadText
    · have q := T.g_BadLine.symm.trans hm
      cases q
      exact T.ke_BadLines_BadLine
    · have q := T.g_NotHeld.symm.trans hm
      cases q
      exact T.ke_BadLines_NotHeld
    · have q := T.g_BadClaim.symm.trans hm
      cases q
      exact T.ke_BadLines_BadClaim
    · have q := T.g_NothingDone.symm.trans hm
      cases q
      exact T.ke_BadLines_NothingDone
  · simp only [fieldL, List.mem_cons, List.not_mem_nil, or_false] at hf
    rcases hf with rfl | rfl | rfl | rfl | rfl
    · exact T.nx_BadLines_part
    · exact T.nx_BadLines_place
    · exact T.nx_BadLines_value
    · exact T.nx_BadLines_name
    · exact T.nx_BadLines_line
theorem rc_BadNumber (T : Top P Z base) : ∀ CE : Addr, Z.mg "BadNumber" = some (.ref CE) → RefC Z "BadNumber" CE askedL fieldL (isE "BadNumber") := fun CE h => by
  have q := T.g_BadNumber.symm.trans h
  cases q
  refine ⟨T.ec_BadNumber.1, T.ec_BadNumber.2, fun n hn C' hm => ?_, T.kv_BadNumber, fun f hf => ?_⟩
  · simp only [askedL, List.mem_cons, List.not_mem_nil, or_false] at hn
    rcases hn with rfl | rfl | rfl | rfl | rfl | rfl | rfl | rfl | rfl | rfl | rfl | rfl
    · have q := T.g_BadRig.symm.trans hm
      cases q
      exact T.ke_BadNumber_BadRig
    · have q := T.g_BadNumber.symm.trans hm
      cases q
      exact T.ke_BadNumber_BadNumber
    · have q := T.g_BadLines.symm.trans hm
      cases q
      exact T.ke_BadNumber_BadLines
    · have q := T.g_UnknownPoint.symm.trans hm
      cases q
      exact T.ke_BadNumber_UnknownPoint
    · have q := T.g_UnknownMember.symm.trans hm
      cases q
      exact T.ke_BadNumber_UnknownMember
    · have q := T.g_BadTackle.symm.trans hm
      cases q
      exact T.ke_BadNumber_BadTackle
    · have q := T.g_BadPieces.symm.trans hm
      cases q
      exact T.ke_BadNumber_BadPieces
    · have q := T.g_BadText.symm.trans hm
      cases q
      exact T.ke_BadNumber_BadText
    · have q := T.g_BadLine.symm.trans hm
      cases q
      exact T.ke_BadNumber_BadLine
    · have q := T.g_NotHeld.symm.trans hm
      cases q
      exact T.ke_BadNumber_NotHeld
    · have q := T.g_BadClaim.symm.trans hm
      cases q
      exact T.ke_BadNumber_BadClaim
    · have q := T.g_NothingDone.symm.trans hm
      cases q
      exact T.ke_BadNumber_NothingDone
  · simp only [fieldL, List.mem_cons, List.not_mem_nil, or_false] at hf
    rcases hf with rfl | rfl | rfl | rfl | rfl
    · exact T.nx_BadNumber_part
    · exact T.nx_BadNumber_place
    · exact T.nx_BadNumber_value
    · exact T.nx_BadNumber_name
    · exact T.nx_BadNumber_line
theorem rc_BadPieces (T : Top P Z base) : ∀ CE : Addr, Z.mg "BadPieces" = some (.ref CE) → RefC Z "BadPieces" CE askedL fieldL (isE "BadPieces") := fun CE h => by
  have q := T.g_BadPieces.symm.trans h
  cases q
  refine ⟨T.ec_BadPieces.1, T.ec_BadPieces.2, fun n hn C' hm => ?_, T.kv_BadPieces, fun f hf => ?_⟩
  · simp only [askedL, List.mem_cons, List.not_mem_nil, or_false] at hn
    rcases hn with rfl | rfl | rfl | rfl | rfl | rfl | rfl | rfl | rfl | rfl | rfl | rfl
    · have q := T.g_BadRig.symm.trans hm
      cases q
      exact T.ke_BadPieces_BadRig
    · have q := T.g_BadNumber.symm.trans hm
      cases q
      exact T.ke_BadPieces_BadNumber
    · have q := T.g_BadLines.symm.trans hm
      cases q
      exact T.ke_BadPieces_BadLines
    · have q := T.g_UnknownPoint.symm.trans hm
      cases q
      exact T.ke_BadPieces_UnknownPoint
    · have q := T.g_UnknownMember.symm.trans hm
      cases q
      exact T.ke_BadPieces_UnknownMember
    · have q := T.g_BadTackle.symm.trans hm
      cases q
      exact T.ke_BadPieces_BadTackle
    · have q := T.g_BadPieces.symm.trans hm
      cases q
      exact T.ke_BadPieces_BadPieces
    · have q := T.g_BadText.symm.trans hm
      cases q
      exact T.ke_BadPieces_BadText
    · have q := T.g_BadLine.symm.trans hm
      cases q
      exact T.ke_BadPieces_BadLine
    · have q := T.g_NotHeld.symm.trans hm
      cases q
      exact T.ke_BadPieces_NotHeld
    · have q := T.g_BadClaim.symm.trans hm
      cases q
      exact T.ke_BadPieces_BadClaim
    · have q := T.g_NothingDone.symm.trans hm
      cases q
      exact T.ke_BadPieces_NothingDone
  · simp only [fieldL, List.mem_cons, List.not_mem_nil, or_false] at hf
    rcases hf with rfl | rfl | rfl | rfl | rfl
    · exact T.nx_BadPieces_part
    · exact T.nx_BadPieces_place
    · exact T.nx_BadPieces_value
    · exact T.nx_BadPieces_name
    · exact T.nx_BadPieces_line
theorem rc_BadRig (T : Top P Z base) : ∀ CE : Addr, Z.mg "BadRig" = some (.ref CE) → RefC Z "BadRig" CE askedL fieldL (isE "BadRig") := fun CE h => by
  have q := T.g_BadRig.symm.trans h
  cases q
  refine ⟨T.ec_BadRig.1, T.ec_BadRig.2, fun n hn C' hm => ?_, T.kv_BadRig, fun f hf => ?_⟩
  · simp only [askedL, List.mem_cons, List.not_mem_nil, or_false] at hn
    rcases hn with rfl | rfl | rfl | rfl | rfl | rfl | rfl | rfl | rfl | rfl | rfl | rfl
    · have q := T.g_BadRig.symm.trans hm
      cases q
      exact T.ke_BadRig_BadRig
    · have q := T.g_BadNumber.symm.trans hm
      cases q
      exact T.ke_BadRig_BadNumber
    · have q := T.g_BadLines.symm.trans hm
      cases q
      exact T.ke_BadRig_BadLines
    · have q := T.g_UnknownPoint.symm.trans hm
      cases q
      exact T.ke_BadRig_UnknownPoint
    · have q := T.g_UnknownMember.symm.trans hm
      cases q
      exact T.ke_BadRig_UnknownMember
    · have q := T.g_BadTackle.symm.trans hm
      cases q
      exact T.ke_BadRig_BadTackle
    · have q := T.g_BadPieces.symm.trans hm
      cases q
      exact T.ke_BadRig_BadPieces
    · have q := T.g_BadText.symm.trans hm
      cases q
      exact T.ke_BadRig_BadText
    · have q := T.g_BadLine.symm.trans hm
      cases q
      exact T.ke_BadRig_BadLine
    · have q := T.g_NotHeld.symm.trans hm
      cases q
      exact T.ke_BadRig_NotHeld
    · have q := T.g_BadClaim.symm.trans hm
      cases q
      exact T.ke_BadRig_BadClaim
    · have q := T.g_NothingDone.symm.trans hm
      cases q
      exact T.ke_BadRig_NothingDone
  · simp only [fieldL, List.mem_cons, List.not_mem_nil, or_false] at hf
    rcases hf with rfl | rfl | rfl | rfl | rfl
    · exact T.nx_BadRig_part
    · exact T.nx_BadRig_place
    · exact T.nx_BadRig_value
    · exact T.nx_BadRig_name
    · exact T.nx_BadRig_line
theorem rc_BadTackle (T : Top P Z base) : ∀ CE : Addr, Z.mg "BadTackle" = some (.ref CE) → RefC Z "BadTackle" CE askedL fieldL (isE "BadTackle") := fun CE h => by
  have q := T.g_BadTackle.symm.trans h
  cases q
  refine ⟨T.ec_BadTackle.1, T.ec_BadTackle.2, fun n hn C' hm => ?_, T.kv_BadTackle, fun f hf => ?_⟩
  · simp only [askedL, List.mem_cons, List.not_mem_nil, or_false] at hn
    rcases hn with rfl | rfl | rfl | rfl | rfl | rfl | rfl | rfl | rfl | rfl | rfl | rfl
    · have q := T.g_BadRig.symm.trans hm
      cases q
      exact T.ke_BadTackle_BadRig
    · have q := T.g_BadNumber.symm.trans hm
      cases q
      exact T.ke_BadTackle_BadNumber
    · have q := T.g_BadLines.symm.trans hm
      cases q
      exact T.ke_BadTackle_BadLines
    · have q := T.g_UnknownPoint.symm.trans hm
      cases q
      exact T.ke_BadTackle_UnknownPoint
    · have q := T.g_UnknownMember.symm.trans hm
      cases q
      exact T.ke_BadTackle_UnknownMember
    · have q := T.g_BadTackle.symm.trans hm
      cases q
      exact T.ke_BadTackle_BadTackle
    · have q := T.g_BadPieces.symm.trans hm
      cases q
      exact T.ke_BadTackle_BadPieces
    · have q := T.g_BadText.symm.trans hm
      cases q
      exact T.ke_BadTackle_BadText
    · have q := T.g_BadLine.symm.trans hm
      cases q
      exact T.ke_BadTackle_BadLine
    · have q := T.g_NotHeld.symm.trans hm
      cases q
      exact T.ke_BadTackle_NotHeld
    · have q := T.g_BadClaim.symm.trans hm
      cases q
      exact T.ke_BadTackle_BadClaim
    · have q := T.g_NothingDone.symm.trans hm
      cases q
      exact T.ke_BadTackle_NothingDone
  · simp only [fieldL, List.mem_cons, List.not_mem_nil, or_false] at hf
    rcases hf with rfl | rfl | rfl | rfl | rfl
    · exact T.nx_BadTackle_part
    · exact T.nx_BadTackle_place
    · exact T.nx_BadTackle_value
    · exact T.nx_BadTackle_name
    · exact T.nx_BadTackle_line
theorem rc_BadText (T : Top P Z base) : ∀ CE : Addr, Z.mg "BadText" = some (.ref CE) → RefC Z "BadText" CE askedL fieldL (isE "BadText") := fun CE h => by
  have q := T.g_BadText.symm.trans h
  cases q
  refine ⟨T.ec_BadText.1, T.ec_BadText.2, fun n hn C' hm => ?_, T.kv_BadText, fun f hf => ?_⟩
  · simp only [askedL, List.mem_cons, List.not_mem_nil, or_false] at hn
    rcases hn with rfl | rfl | rfl | rfl | rfl | rfl | rfl | rfl | rfl | rfl | rfl | rfl
    · have q := T.g_BadRig.symm.trans hm
      cases q
      exact T.ke_BadText_BadRig
    · have q := T.g_BadNumber.symm.trans hm
      cases q
      exact T.ke_BadText_BadNumber
    · have q := T.g_BadLines.symm.trans hm
      cases q
      exact T.ke_BadText_BadLines
    · have q := T.g_UnknownPoint.symm.trans hm
      cases q
      exact T.ke_BadText_UnknownPoint
    · have q := T.g_UnknownMember.symm.trans hm
      cases q
      exact T.ke_BadText_UnknownMember
    · have q := T.g_BadTackle.symm.trans hm
      cases q
      exact T.ke_BadText_BadTackle
    · have q := T.g_BadPieces.symm.trans hm
      cases q
      exact T.ke_BadText_BadPieces
    · have q := T.g_BadText.symm.trans hm
      cases q
      exact T.ke_BadText_BadText
    · have q := T.g_BadLine.symm.trans hm
      cases q
      exact T.ke_BadText_BadLine
    · have q := T.g_NotHeld.symm.trans hm
      cases q
      exact T.ke_BadText_NotHeld
    · have q := T.g_BadClaim.symm.trans hm
      cases q
      exact T.ke_BadText_BadClaim
    · have q := T.g_NothingDone.symm.trans hm
      cases q
      exact T.ke_BadText_NothingDone
  · simp only [fieldL, List.mem_cons, List.not_mem_nil, or_false] at hf
    rcases hf with rfl | rfl | rfl | rfl | rfl
    · exact T.nx_BadText_part
    · exact T.nx_BadText_place
    · exact T.nx_BadText_value
    · exact T.nx_BadText_name
    · exact T.nx_BadText_line
theorem rc_NotHeld (T : Top P Z base) : ∀ CE : Addr, Z.mg "NotHeld" = some (.ref CE) → RefC Z "NotHeld" CE askedL fieldL (isE "NotHeld") := fun CE h => by
  have q := T.g_NotHeld.symm.trans h
  cases q
  refine ⟨T.ec_NotHeld.1, T.ec_NotHeld.2, fun n hn C' hm => ?_, T.kv_NotHeld, fun f hf => ?_⟩
  · simp only [askedL, List.mem_cons, List.not_mem_nil, or_false] at hn
    rcases hn with rfl | rfl | rfl | rfl | rfl | rfl | rfl | rfl | rfl | rfl | rfl | rfl
    · have q := T.g_BadRig.symm.trans hm
      cases q
      exact T.ke_NotHeld_BadRig
    · have q := T.g_BadNumber.symm.trans hm
      cases q
      exact T.ke_NotHeld_BadNumber
    · have q := T.g_BadLines.symm.trans hm
      cases q
      exact T.ke_NotHeld_BadLines
    · have q := T.g_UnknownPoint.symm.trans hm
      cases q
      exact T.ke_NotHeld_UnknownPoint
    · have q := T.g_UnknownMember.symm.trans hm
      cases q
      exact T.ke_NotHeld_UnknownMember
    · have q := T.g_BadTackle.symm.trans hm
      cases q
      exact T.ke_NotHeld_BadTackle
    · have q := T.g_BadPieces.symm.trans hm
      cases q
      exact T.ke_NotHeld_BadPieces
    · have q := T.g_BadText.symm.trans hm
      cases q
      exact T.ke_NotHeld_BadText
    · have q := T.g_BadLine.symm.trans hm
      cases q
      exact T.ke_NotHeld_BadLine
    · have q := T.g_NotHeld.symm.trans hm
      cases q
      exact T.ke_NotHeld_NotHeld
    · have q := T.g_BadClaim.symm.trans hm
      cases q
      exact T.ke_NotHeld_BadClaim
    · have q := T.g_NothingDone.symm.trans hm
      cases q
      exact T.ke_NotHeld_NothingDone
  · simp only [fieldL, List.mem_cons, List.not_mem_nil, or_false] at hf
    rcases hf with rfl | rfl | rfl | rfl | rfl
    · exact T.nx_NotHeld_part
    · exact T.nx_NotHeld_place
    · exact T.nx_NotHeld_value
    · exact T.nx_NotHeld_name
    · exact T.nx_NotHeld_line
theorem rc_NothingDone (T : Top P Z base) : ∀ CE : Addr, Z.mg "NothingDone" = some (.ref CE) → RefC Z "NothingDone" CE askedL fieldL (isE "NothingDone") := fun CE h => by
  have q := T.g_NothingDone.symm.trans h
  cases q
  refine ⟨T.ec_NothingDone.1, T.ec_NothingDone.2, fun n hn C' hm => ?_, T.kv_NothingDone, fun f hf => ?_⟩
  · simp only [askedL, List.mem_cons, List.not_mem_nil, or_false] at hn
    rcases hn with rfl | rfl | rfl | rfl | rfl | rfl | rfl | rfl | rfl | rfl | rfl | rfl
    · have q := T.g_BadRig.symm.trans hm
      cases q
      exact T.ke_NothingDone_BadRig
    · have q := T.g_BadNumber.symm.trans hm
      cases q
      exact T.ke_NothingDone_BadNumber
    · have q := T.g_BadLines.symm.trans hm
      cases q
      exact T.ke_NothingDone_BadLines
    · have q := T.g_UnknownPoint.symm.trans hm
      cases q
      exact T.ke_NothingDone_UnknownPoint
    · have q := T.g_UnknownMember.symm.trans hm
      cases q
      exact T.ke_NothingDone_UnknownMember
    · have q := T.g_BadTackle.symm.trans hm
      cases q
      exact T.ke_NothingDone_BadTackle
    · have q := T.g_BadPieces.symm.trans hm
      cases q
      exact T.ke_NothingDone_BadPieces
    · have q := T.g_BadText.symm.trans hm
      cases q
      exact T.ke_NothingDone_BadText
    · have q := T.g_BadLine.symm.trans hm
      cases q
      exact T.ke_NothingDone_BadLine
    · have q := T.g_NotHeld.symm.trans hm
      cases q
      exact T.ke_NothingDone_NotHeld
    · have q := T.g_BadClaim.symm.trans hm
      cases q
      exact T.ke_NothingDone_BadClaim
    · have q := T.g_NothingDone.symm.trans hm
      cases q
      exact T.ke_NothingDone_NothingDone
  · simp only [fieldL, List.mem_cons, List.not_mem_nil, or_false] at hf
    rcases hf with rfl | rfl | rfl | rfl | rfl
    · exact T.nx_NothingDone_part
    · exact T.nx_NothingDone_place
    · exact T.nx_NothingDone_value
    · exact T.nx_NothingDone_name
    · exact T.nx_NothingDone_line
theorem rc_UnknownMember (T : Top P Z base) : ∀ CE : Addr, Z.mg "UnknownMember" = some (.ref CE) → RefC Z "UnknownMember" CE askedL fieldL (isE "UnknownMember") := fun CE h => by
  have q := T.g_UnknownMember.symm.trans h
  cases q
  refine ⟨T.ec_UnknownMember.1, T.ec_UnknownMember.2, fun n hn C' hm => ?_, T.kv_UnknownMember, fun f hf => ?_⟩
  · simp only [askedL, List.mem_cons, List.not_mem_nil, or_false] at hn
    rcases hn with rfl | rfl | rfl | rfl | rfl | rfl | rfl | rfl | rfl | rfl | rfl | rfl
    · have q := T.g_BadRig.symm.trans hm
      cases q
      exact T.ke_UnknownMember_BadRig
    · have q := T.g_BadNumber.symm.trans hm
      cases q
      exact T.ke_UnknownMember_BadNumber
    · have q := T.g_BadLines.symm.trans hm
      cases q
      exact T.ke_UnknownMember_BadLines
    · have q := T.g_UnknownPoint.symm.trans hm
      cases q
      exact T.ke_UnknownMember_UnknownPoint
    · have q := T.g_UnknownMember.symm.trans hm
      cases q
      exact T.ke_UnknownMember_UnknownMember
    · have q := T.g_BadTackle.symm.trans hm
      cases q
      exact T.ke_UnknownMember_BadTackle
    · have q := T.g_BadPieces.symm.trans hm
      cases q
      exact T.ke_UnknownMember_BadPieces
    · have q := T.g_BadText.symm.trans hm
      cases q
      exact T.ke_UnknownMember_BadText
    · have q := T.g_BadLine.symm.trans hm
      cases q
      exact T.ke_UnknownMember_BadLine
    · have q := T.g_NotHeld.symm.trans hm
      cases q
      exact T.ke_UnknownMember_NotHeld
    · have q := T.g_BadClaim.symm.trans hm
      cases q
      exact T.ke_UnknownMember_BadClaim
    · have q := T.g_NothingDone.symm.trans hm
      cases q
      exact T.ke_UnknownMember_NothingDone
  · simp only [fieldL, List.mem_cons, List.not_mem_nil, or_false] at hf
    rcases hf with rfl | rfl | rfl | rfl | rfl
    · exact T.nx_UnknownMember_part
    · exact T.nx_UnknownMember_place
    · exact T.nx_UnknownMember_value
    · exact T.nx_UnknownMember_name
    · exact T.nx_UnknownMember_line
theorem rc_UnknownPoint (T : Top P Z base) : ∀ CE : Addr, Z.mg "UnknownPoint" = some (.ref CE) → RefC Z "UnknownPoint" CE askedL fieldL (isE "UnknownPoint") := fun CE h => by
  have q := T.g_UnknownPoint.symm.trans h
  cases q
  refine ⟨T.ec_UnknownPoint.1, T.ec_UnknownPoint.2, fun n hn C' hm => ?_, T.kv_UnknownPoint, fun f hf => ?_⟩
  · simp only [askedL, List.mem_cons, List.not_mem_nil, or_false] at hn
    rcases hn with rfl | rfl | rfl | rfl | rfl | rfl | rfl | rfl | rfl | rfl | rfl | rfl
    · have q := T.g_BadRig.symm.trans hm
      cases q
      exact T.ke_UnknownPoint_BadRig
    · have q := T.g_BadNumber.symm.trans hm
      cases q
      exact T.ke_UnknownPoint_BadNumber
    · have q := T.g_BadLines.symm.trans hm
      cases q
      exact T.ke_UnknownPoint_BadLines
    · have q := T.g_UnknownPoint.symm.trans hm
      cases q
      exact T.ke_UnknownPoint_UnknownPoint
    · have q := T.g_UnknownMember.symm.trans hm
      cases q
      exact T.ke_UnknownPoint_UnknownMember
    · have q := T.g_BadTackle.symm.trans hm
      cases q
      exact T.ke_UnknownPoint_BadTackle
    · have q := T.g_BadPieces.symm.trans hm
      cases q
      exact T.ke_UnknownPoint_BadPieces
    · have q := T.g_BadText.symm.trans hm
      cases q
      exact T.ke_UnknownPoint_BadText
    · have q := T.g_BadLine.symm.trans hm
      cases q
      exact T.ke_UnknownPoint_BadLine
    · have q := T.g_NotHeld.symm.trans hm
      cases q
      exact T.ke_UnknownPoint_NotHeld
    · have q := T.g_BadClaim.symm.trans hm
      cases q
      exact T.ke_UnknownPoint_BadClaim
    · have q := T.g_NothingDone.symm.trans hm
      cases q
      exact T.ke_UnknownPoint_NothingDone
  · simp only [fieldL, List.mem_cons, List.not_mem_nil, or_false] at hf
    rcases hf with rfl | rfl | rfl | rfl | rfl
    · exact T.nx_UnknownPoint_part
    · exact T.nx_UnknownPoint_place
    · exact T.nx_UnknownPoint_value
    · exact T.nx_UnknownPoint_name
    · exact T.nx_UnknownPoint_line
theorem rc_all (T : Top P Z base) : ∀ c ∈ knownL, ∀ CE : Addr, Z.mg c = some (.ref CE) → RefC Z c CE askedL fieldL (isE c) := fun c hc => by
  simp only [knownL, List.mem_cons, List.not_mem_nil, or_false] at hc
  rcases hc with rfl | rfl | rfl | rfl | rfl | rfl | rfl | rfl | rfl | rfl | rfl | rfl
  · exact rc_BadClaim T
  · exact rc_BadLine T
  · exact rc_BadLines T
  · exact rc_BadNumber T
  · exact rc_BadPieces T
  · exact rc_BadRig T
  · exact rc_BadTackle T
  · exact rc_BadText T
  · exact rc_NotHeld T
  · exact rc_NothingDone T
  · exact rc_UnknownMember T
  · exact rc_UnknownPoint T
theorem xm_all (T : Top P Z base) : ∀ c ∈ knownL, ∀ CE : Addr, Z.mg c = some (.ref CE) → PySem.W.exmOne Z.K (.ref CE) (.ref T.C_LoftError) = some true := fun c hc CE h => by
  simp only [knownL, List.mem_cons, List.not_mem_nil, or_false] at hc
  rcases hc with rfl | rfl | rfl | rfl | rfl | rfl | rfl | rfl | rfl | rfl | rfl | rfl
  · have q := T.g_BadClaim.symm.trans h
    cases q
    exact T.xm_BadClaim
  · have q := T.g_BadLine.symm.trans h
    cases q
    exact T.xm_BadLine
  · have q := T.g_BadLines.symm.trans h
    cases q
    exact T.xm_BadLines
  · have q := T.g_BadNumber.symm.trans h
    cases q
    exact T.xm_BadNumber
  · have q := T.g_BadPieces.symm.trans h
    cases q
    exact T.xm_BadPieces
  · have q := T.g_BadRig.symm.trans h
    cases q
    exact T.xm_BadRig
  · have q := T.g_BadTackle.symm.trans h
    cases q
    exact T.xm_BadTackle
  · have q := T.g_BadText.symm.trans h
    cases q
    exact T.xm_BadText
  · have q := T.g_NotHeld.symm.trans h
    cases q
    exact T.xm_NotHeld
  · have q := T.g_NothingDone.symm.trans h
    cases q
    exact T.xm_NothingDone
  · have q := T.g_UnknownMember.symm.trans h
    cases q
    exact T.xm_UnknownMember
  · have q := T.g_UnknownPoint.symm.trans h
    cases q
    exact T.xm_UnknownPoint
theorem kle_all (T : Top P Z base) : ∀ c ∈ knownL, ∀ CE : Addr, Z.mg c = some (.ref CE) → PySem.W.kitOne Z.K (.ref CE) (.ref T.C_LoftError) = some true := fun c hc CE h => by
  simp only [knownL, List.mem_cons, List.not_mem_nil, or_false] at hc
  rcases hc with rfl | rfl | rfl | rfl | rfl | rfl | rfl | rfl | rfl | rfl | rfl | rfl
  · have q := T.g_BadClaim.symm.trans h
    cases q
    exact T.kle_BadClaim
  · have q := T.g_BadLine.symm.trans h
    cases q
    exact T.kle_BadLine
  · have q := T.g_BadLines.symm.trans h
    cases q
    exact T.kle_BadLines
  · have q := T.g_BadNumber.symm.trans h
    cases q
    exact T.kle_BadNumber
  · have q := T.g_BadPieces.symm.trans h
    cases q
    exact T.kle_BadPieces
  · have q := T.g_BadRig.symm.trans h
    cases q
    exact T.kle_BadRig
  · have q := T.g_BadTackle.symm.trans h
    cases q
    exact T.kle_BadTackle
  · have q := T.g_BadText.symm.trans h
    cases q
    exact T.kle_BadText
  · have q := T.g_NotHeld.symm.trans h
    cases q
    exact T.kle_NotHeld
  · have q := T.g_NothingDone.symm.trans h
    cases q
    exact T.kle_NothingDone
  · have q := T.g_UnknownMember.symm.trans h
    cases q
    exact T.kle_UnknownMember
  · have q := T.g_UnknownPoint.symm.trans h
    cases q
    exact T.kle_UnknownPoint
theorem ok__law_taken (T : Top P Z base) : FnOk P w Z.K Z.mg base (L2.CX P w) 1 T.a__law_taken T.d__law_taken ["row", "many"] (spB Z 1 m__law_taken) := okB (N := N__law_taken) T.F__law_taken sc__law_taken rfl fun cdv A outer s Y H B v0 E hr => by
  have px : PX (cxOf (L2.CX P w) P w Z.K Z.mg base N__law_taken "_law_taken" (defScope s__law_taken) T.a__law_taken cdv A outer s H E) (GpB Y H B v0 E) := px_of (takes_of rfl rfl rfl rfl)
  have hpo : PassesOwn (model P w) (cxOf (L2.CX P w) P w Z.K Z.mg base N__law_taken "_law_taken" (defScope s__law_taken) T.a__law_taken cdv A outer s H E).A (cxOf (L2.CX P w) P w Z.K Z.mg base N__law_taken "_law_taken" (defScope s__law_taken) T.a__law_taken cdv A outer s H E).env (cxOf (L2.CX P w) P w Z.K Z.mg base N__law_taken "_law_taken" (defScope s__law_taken) T.a__law_taken cdv A outer s H E).xe := passes_of rfl
  have hu64 := hr.units
  have hu65 := room65 hr
  have hu80 := room80 hr
  have hu1 := room1 hr
  exact (dss_cons (ds_if (dt_cmp bl_gt od_gt (de_ix (od_ix2 rfl hu1) (de_v 0) de_int) de_int) (dss_cons (ds_asg (de_bin od_mod (de_callT od_int (by rfl) T.z_int (by decide +kernel) (da_cons (de_ix (od_ix2 rfl hu1) (de_v 0) de_int) da_nil)) (de_v 1)) (dg_n (i := 2) sc__law_taken.nd)) (dss_cons (ds_asg (de_bin od_div (de_ix (od_ix2 rfl hu1) (de_v 0) de_int) (de_v 1)) (dg_set 0 hu1 de_int)) (dss_one (ds_ret (de_v 2))))) dss_nil) (dss_cons (ds_asg (de_bin (od_add rfl) (de_ix (od_ix2 rfl hu1) (de_v 0) de_int) de_int) (dg_set 0 hu1 de_int)) (dss_cons (ds_if (dt_cmp bl_gt od_gt (de_ix (od_ix2 rfl hu1) (de_v 0) de_int) (de_callB (od_len rfl) (by rfl) T.z_len (by decide +kernel) (da_cons (de_ix (od_ix2 rfl hu1) (de_v 0) de_int) da_nil))) (dss_cons (ds_asg (de_bin od_mod (de_callT od_int (by rfl) T.z_int (by decide +kernel) (da_cons (de_bin (od_add rfl) (de_bin (od_mul rfl) (de_ix (od_ix2 rfl hu1) (de_v 0) de_int) de_int) de_int) da_nil)) de_int) (dg_set 0 hu1 de_int)) (dss_one (ds_ret (de_bin od_mod (de_callT od_int (by rfl) T.z_int (by decide +kernel) (da_cons (de_bin od_div (de_ix (od_ix2 rfl hu1) (de_v 0) de_int) de_int) da_nil)) (de_v 1))))) dss_nil) (dss_cons (ds_asg (de_ix (od_ix2 rfl hu1) (de_ix (od_ix2 rfl hu1) (de_v 0) de_int) (de_bin od_sub (de_ix (od_ix2 rfl hu1) (de_v 0) de_int) de_int)) (dg_n (i := 3) sc__law_taken.nd)) (dss_cons (ds_asg (de_bin od_mod (de_callT od_int (by rfl) T.z_int (by decide +kernel) (da_cons (de_bin (od_add rfl) (de_bin (od_add rfl) (de_bin (od_mul rfl) (de_ix (od_ix2 rfl hu1) (de_v 0) de_int) de_int) (de_v 3)) de_int) da_nil)) de_int) (dg_set 0 hu1 de_int)) (dss_cons (ds_if (dt_cmp bl_ge od_ge (de_v 3) (de_bin od_pow de_int de_int)) (dss_cons (ds_asg (de_bin od_div (de_v 3) (de_v 1)) (dg_set 0 hu1 de_int)) (dss_one (ds_ret (de_bin od_mod (de_callT od_int (by rfl) T.z_int (by decide +kernel) (da_cons (de_v 3) da_nil)) (de_v 1))))) dss_nil) (dss_one (ds_ret (de_bin od_mod (de_callT od_int (by rfl) T.z_int (by decide +kernel) (da_cons (de_bin (od_add rfl) (de_bin (od_mul rfl) (de_bin od_mod (de_callT od_int (by rfl) T.z_int (by decide +kernel) (da_cons (de_v 3) da_nil)) de_int) de_int) (de_bin od_div (de_ix (od_ix2 rfl hu1) (de_v 0) de_int) de_int)) da_nil)) (de_v 1))))))))))
theorem ok__law_same (T : Top P Z base) : FnG P w Z.K Z.mg base (L2.CX P w) 1 T.a__law_same T.d__law_same ["found", "due"] (spP Z 2 m__law_same) := okPg (N := N__law_same) T.F__law_same sc__law_same fun cdv A outer s Y H E hr hgA => by
  have px : PX (cxOf (L2.CX P w) P w Z.K Z.mg base N__law_same "_law_same" (defScope s__law_same) T.a__law_same cdv A outer s H E) (Gp Y H E) := px_of (takes_of rfl rfl rfl rfl)
  have hpo : PassesOwn (model P w) (cxOf (L2.CX P w) P w Z.K Z.mg base N__law_same "_law_same" (defScope s__law_same) T.a__law_same cdv A outer s H E).A (cxOf (L2.CX P w) P w Z.K Z.mg base N__law_same "_law_same" (defScope s__law_same) T.a__law_same cdv A outer s H E).env (cxOf (L2.CX P w) P w Z.K Z.mg base N__law_same "_law_same" (defScope s__law_same) T.a__law_same cdv A outer s H E).xe := passes_of rfl
  have hu64 := hr.units
  have hu65 := room65 hr
  have hu80 := room80 hr
  have hu1 := room1 hr
  exact (dss_one (ds_ret (de_cmp (od_eq rfl hu64) (de_callB (od_repr rfl hgA hu64) (by rfl) T.z_repr (by decide +kernel) (da_cons (de_v 0) da_nil)) (de_callB (od_repr rfl hgA hu64) (by rfl) T.z_repr (by decide +kernel) (da_cons (de_v 1) da_nil)))))
theorem okH__law_same (T : Top P Z base) : FnGH P w Z.K Z.mg base (L2.CX P w) 1 T.a__law_same T.d__law_same ["found", "due"] (spP Z 2 m__law_same) := okPgH (N := N__law_same) T.F__law_same sc__law_same fun cdv A outer s Y H E p hr hgA => by
  have hu64 := huH64 hr
  have hu65 := huH65 hr
  have hu80 := huH80 hr
  have hu1 := huH1 hr
  exact (dss_one (ds_ret (de_cmp (od_eq rfl hu64) (de_callB (od_repr rfl hgA hu64) (by rfl) T.z_repr (by decide +kernel) (da_cons (de_v 0) da_nil)) (de_callB (od_repr rfl hgA hu64) (by rfl) T.z_repr (by decide +kernel) (da_cons (de_v 1) da_nil)))))
theorem ok__law_refusal (T : Top P Z base) : RefOk P w Z base T.a__law_refusal T.d__law_refusal knownL m__law_refusal := RefOk.known (okRef (N := N__law_refusal) (b := b__law_refusal) T.F__law_refusal sc__law_refusal (by decide) (rc_all T) fun cdv A outer s Y H a oe d c ns ds CE hr R hX hA => by
  have hbor : (Gx Y H a d).bor 0 = some (.ref a) := rfl
  have hB : (Gx Y H a d).B = [] := rfl
  have hu64 := huH64 hr
  have hu65 := huH65 hr
  have hu80 := huH80 hr
  have hu1 := huH1 hr
  exact (dss_cons (ds_asg (de_lst (da_cons de_str (da_cons de_str (da_cons de_str (da_cons de_str (da_cons de_str (da_cons de_str (da_cons de_str (da_cons de_str (da_cons de_str (da_cons de_str (da_cons de_str (da_cons de_str da_nil))))))))))))) (dg_n (i := 1) sc__law_refusal.nd)) (dss_cons (ds_asg (de_lst (da_cons (de_isX 0 (c := .ref T.C_BadRig) hbor hX R.C hA.dict (R.own "BadRig" (by simp [askedL]) _ T.g_BadRig) (fun _ h => h) (pe_glob (v := .ref T.C_BadRig) (by rfl) T.g_BadRig rfl) (by rfl) T.z_isinstance) (da_cons (de_isX 0 (c := .ref T.C_BadNumber) hbor hX R.C hA.dict (R.own "BadNumber" (by simp [askedL]) _ T.g_BadNumber) (fun _ h => h) (pe_glob (v := .ref T.C_BadNumber) (by rfl) T.g_BadNumber rfl) (by rfl) T.z_isinstance) (da_cons (de_isX 0 (c := .ref T.C_BadLines) hbor hX R.C hA.dict (R.own "BadLines" (by simp [askedL]) _ T.g_BadLines) (fun _ h => h) (pe_glob (v := .ref T.C_BadLines) (by rfl) T.g_BadLines rfl) (by rfl) T.z_isinstance) (da_cons (de_isX 0 (c := .ref T.C_UnknownPoint) hbor hX R.C hA.dict (R.own "UnknownPoint" (by simp [askedL]) _ T.g_UnknownPoint) (fun _ h => h) (pe_glob (v := .ref T.C_UnknownPoint) (by rfl) T.g_UnknownPoint rfl) (by rfl) T.z_isinstance) (da_cons (de_isX 0 (c := .ref T.C_UnknownMember) hbor hX R.C hA.dict (R.own "UnknownMember" (by simp [askedL]) _ T.g_UnknownMember) (fun _ h => h) (pe_glob (v := .ref T.C_UnknownMember) (by rfl) T.g_UnknownMember rfl) (by rfl) T.z_isinstance) (da_cons (de_isX 0 (c := .ref T.C_BadTackle) hbor hX R.C hA.dict (R.own "BadTackle" (by simp [askedL]) _ T.g_BadTackle) (fun _ h => h) (pe_glob (v := .ref T.C_BadTackle) (by rfl) T.g_BadTackle rfl) (by rfl) T.z_isinstance) (da_cons (de_isX 0 (c := .ref T.C_BadPieces) hbor hX R.C hA.dict (R.own "BadPieces" (by simp [askedL]) _ T.g_BadPieces) (fun _ h => h) (pe_glob (v := .ref T.C_BadPieces) (by rfl) T.g_BadPieces rfl) (by rfl) T.z_isinstance) (da_cons (de_isX 0 (c := .ref T.C_BadText) hbor hX R.C hA.dict (R.own "BadText" (by simp [askedL]) _ T.g_BadText) (fun _ h => h) (pe_glob (v := .ref T.C_BadText) (by rfl) T.g_BadText rfl) (by rfl) T.z_isinstance) (da_cons (de_isX 0 (c := .ref T.C_BadLine) hbor hX R.C hA.dict (R.own "BadLine" (by simp [askedL]) _ T.g_BadLine) (fun _ h => h) (pe_glob (v := .ref T.C_BadLine) (by rfl) T.g_BadLine rfl) (by rfl) T.z_isinstance) (da_cons (de_isX 0 (c := .ref T.C_NotHeld) hbor hX R.C hA.dict (R.own "NotHeld" (by simp [askedL]) _ T.g_NotHeld) (fun _ h => h) (pe_glob (v := .ref T.C_NotHeld) (by rfl) T.g_NotHeld rfl) (by rfl) T.z_isinstance) (da_cons (de_isX 0 (c := .ref T.C_BadClaim) hbor hX R.C hA.dict (R.own "BadClaim" (by simp [askedL]) _ T.g_BadClaim) (fun _ h => h) (pe_glob (v := .ref T.C_BadClaim) (by rfl) T.g_BadClaim rfl) (by rfl) T.z_isinstance) (da_cons (de_isX 0 (c := .ref T.C_NothingDone) hbor hX R.C hA.dict (R.own "NothingDone" (by simp [askedL]) _ T.g_NothingDone) (fun _ h => h) (pe_glob (v := .ref T.C_NothingDone) (by rfl) T.g_NothingDone rfl) (by rfl) T.z_isinstance) da_nil))))))))))))) (dg_n (i := 2) sc__law_refusal.nd)) (dss_cons (ds_if (dt_bool (dw_or (dt_cmp bl_ne (od_ne rfl hu64) (de_count rfl hu65 (de_v 2) de_bl) de_int) (dw_or1 (dt_not (dt_val (de_isX 0 (c := .ty "ValueError") hbor hX R.C hA.dict R.ve (fun _ h => h) (pe_bltn (v := .ty "ValueError") (by rfl) T.z_ValueError PyProof.Rows.Boot.«ValueError» rfl) (by rfl) T.z_isinstance)))))) (dss_one (ds_ret (de_tup (da_cons de_str da_nil)))) dss_nil) (dss_cons (ds_asg (de_ix (od_ix2 rfl hu1) (de_v 1) (de_index rfl hu65 (de_v 2) de_bl)) (dg_n (i := 3) sc__law_refusal.nd)) (dss_cons (ds_if (dt_cmp bl_eq (od_eq rfl hu64) (de_v 3) de_str) (dss_one (ds_ret (de_tup (da_cons (de_v 3) (da_cons (de_xfA 0 hA hbor hB hX R.T (R.no "part" (by simp [fieldL]))) (da_cons (de_xfA 0 hA hbor hB hX R.T (R.no "place" (by simp [fieldL]))) da_nil)))))) dss_nil) (dss_cons (ds_if (dt_cmp bl_in2 (od_in2 rfl hu65) (de_v 3) (de_tup (da_cons de_str (da_cons de_str da_nil)))) (dss_one (ds_ret (de_tup (da_cons (de_v 3) (da_cons (de_xfA 0 hA hbor hB hX R.T (R.no "value" (by simp [fieldL]))) da_nil))))) dss_nil) (dss_cons (ds_if (dt_cmp bl_in2 (od_in2 rfl hu65) (de_v 3) (de_tup (da_cons de_str (da_cons de_str da_nil)))) (dss_one (ds_ret (de_tup (da_cons (de_v 3) (da_cons (de_xfA 0 hA hbor hB hX R.T (R.no "name" (by simp [fieldL]))) da_nil))))) dss_nil) (dss_cons (ds_if (dt_cmp bl_in2 (od_in2 rfl hu65) (de_v 3) (de_tup (da_cons de_str (da_cons de_str da_nil)))) (dss_one (ds_ret (de_tup (da_cons (de_v 3) (da_cons (de_xfA 0 hA hbor hB hX R.T (R.no "place" (by simp [fieldL]))) da_nil))))) dss_nil) (dss_cons (ds_if (dt_cmp bl_in2 (od_in2 rfl hu65) (de_v 3) (de_tup (da_cons de_str (da_cons de_str da_nil)))) (dss_one (ds_ret (de_tup (da_cons (de_v 3) (da_cons (de_xfA 0 hA hbor hB hX R.T (R.no "line" (by simp [fieldL]))) da_nil))))) dss_nil) (dss_one (ds_ret (de_tup (da_cons (de_v 3) da_nil))))))))))))))
theorem ok__law_pick (T : Top P Z base) : FnOk P w Z.K Z.mg base (L2.CX P w) 2 T.a__law_pick T.d__law_pick ["row", "things"] (spB Z 1 m__law_pick) := okB (N := N__law_pick) T.F__law_pick sc__law_pick rfl fun cdv A outer s Y H B v0 E hr => by
  have px : PX (cxOf (L2.CX P w) P w Z.K Z.mg base N__law_pick "_law_pick" (defScope s__law_pick) T.a__law_pick cdv A outer s H E) (GpB Y H B v0 E) := px_of (takes_of rfl rfl rfl rfl)
  have hpo : PassesOwn (model P w) (cxOf (L2.CX P w) P w Z.K Z.mg base N__law_pick "_law_pick" (defScope s__law_pick) T.a__law_pick cdv A outer s H E).A (cxOf (L2.CX P w) P w Z.K Z.mg base N__law_pick "_law_pick" (defScope s__law_pick) T.a__law_pick cdv A outer s H E).env (cxOf (L2.CX P w) P w Z.K Z.mg base N__law_pick "_law_pick" (defScope s__law_pick) T.a__law_pick cdv A outer s H E).xe := passes_of rfl
  have hu64 := hr.units
  have hu65 := room65 hr
  have hu80 := room80 hr
  have hu1 := room1 hr
  exact (dss_one (ds_ret (de_ix (od_ix2 rfl hu1) (de_v 1) (de_callO 0 (ok__law_taken T) (hr.mono (by decide)) (by rfl) T.g__law_taken T.F__law_taken.kp T.b__law_taken px econst_B (da_cons (de_callB (od_len rfl) (by rfl) T.z_len (by decide +kernel) (da_cons (de_v 1) da_nil)) da_nil)))))
end
end PD

set_option linter.all false
set_option maxRecDepth 100000
set_option maxHeartbeats 2000000
namespace PD
open PySem PySem.Spec PyProof.Rows L2 LamX NdefX
structure En where
  c : Str
  ns : List Str
  ds : List D
  a : Addr
  d : Option Addr
  C : Addr
def En.key (e : En) : Str × List Str × List D := (e.c, e.ns, e.ds)
structure EnF (Z : Zt) (Y : Addr → Prop) (H2 H : Hp) (e : En) : Prop where
  m : Z.mg e.c = some (.ref e.C)
  h : H e.a = some (exo e.a e.C e.d)
  n : H2 e.a = none
  x : (e.ns = [] ∧ e.d = none) ∨ ∃ dd vs, e.d = some dd ∧ H2 dd = none ∧ e.ns.length = vs.length ∧ H dd = some (.xd (e.ns.zip vs)) ∧ RepL Z Y H2 e.ds vs
def Nw (H2 H H' : Hp) : Prop := ∀ b o, H2 b = none → H b = some o → (∀ ps, o ≠ .tbl ps) → H' b = some o
section
variable {Z : Zt} {Y : Addr → Prop} {H2 H H' : Hp} {e : En} {es en : List En}
theorem Nw.same (s : Same H H') : Nw H2 H H' := fun b o _ h _ => s b o h
theorem Nw.kp (k : Kp Z H H') : Nw H2 H H' := fun b o _ h t => k.keep b o h t
theorem Nw.trans {H3 : Hp} (f : Nw H2 H H') (g : Nw H2 H' H3) : Nw H2 H H3 := fun b o n h t => g b o n (f b o n h t) t
theorem exo_nt' {a C : Addr} {d : Option Addr} (ps : Array Value) : exo a C d ≠ .tbl ps := fun z => by cases z
theorem EnF.nw (F : EnF Z Y H2 H e) (k : Nw H2 H H') : EnF Z Y H2 H' e :=
  ⟨F.m, k _ _ F.n F.h exo_nt', F.n, F.x.imp id fun ⟨dd, vs, h1, h2, h3, h4, h5⟩ => ⟨dd, vs, h1, h2, h3, k _ _ h2 h4 (fun ps z => by cases z), h5⟩⟩
theorem EnF.del {a : Addr} {C : Addr} {d : Option Addr} (F : EnF Z Y H2 H e) (ne : e.a ≠ a) (ha : H a = some (exo a C d)) : EnF Z Y H2 (delH H a) e :=
  ⟨F.m, by rw [delH_ne ne]; exact F.h, F.n, F.x.imp id fun ⟨dd, vs, h1, h2, h3, h4, h5⟩ => ⟨dd, vs, h1, h2, h3, by rw [delH_ne (fun z => by rw [z, ha] at h4; cases h4)]; exact h4, h5⟩⟩
def Good (Z : Zt) (Y : Addr → Prop) (H2 H : Hp) (es : List En) : Prop := (∀ e ∈ es, EnF Z Y H2 H e) ∧ (es.map (·.a)).Nodup
theorem Good.nw (G : Good Z Y H2 H es) (k : Nw H2 H H') : Good Z Y H2 H' es := ⟨fun e he => (G.1 e he).nw k, G.2⟩
theorem Good.nil : Good Z Y H2 H [] := ⟨fun _ h => (by cases h), List.nodup_nil⟩
theorem Good.snoc (G : Good Z Y H2 H es) (s : Same H H') (n : H e.a = none) (F : EnF Z Y H2 H' e) : Good Z Y H2 H' (es ++ [e]) := by
  refine ⟨fun x hx => ?_, ?_⟩
  · rcases List.mem_append.1 hx with h | h
    · exact (G.1 x h).nw (Nw.same s)
    · rw [List.mem_singleton.1 h]; exact F
  · rw [List.map_append, List.nodup_append]
    refine ⟨G.2, by simp, fun a ha b hb => ?_⟩
    obtain ⟨x, hx, rfl⟩ := List.mem_map.1 ha
    rw [List.map_singleton] at hb
    have eb := List.mem_singleton.1 hb
    subst eb
    exact fun z => by
      have q := (G.1 x hx).h
      rw [z, n] at q; cases q
theorem EnF.ex (F : EnF Z Y H2 H e) {Y' : Addr → Prop} (sub : ∀ b, Y' b → Y b ∨ H2 b = none) (k : ∀ b o, H2 b = some o → ¬ Y b → (∀ ps, o ≠ .tbl ps) → H b = some o) (kt : ∀ a ps, H2 a = some (.tbl ps) → ∃ qs, H a = some (.tbl qs)) (tb : Tabs Z.T H2 → Tabs Z.T H) : ExR Z Y' H e.c e.ns e.ds (.ref e.C) e.d :=
  ⟨e.C, rfl, F.m, F.x.imp id fun ⟨dd, vs, h1, h2, h3, h4, h5⟩ => ⟨dd, vs, h1, h3, h4, RepL.mono (Z := Z) (X := Y) (X' := Y') ⟨fun b o h n t => k b o h n t, kt, sub, tb⟩ _ _ h5⟩⟩
theorem EnF.dne (F : EnF Z Y H2 H e) : e.d ≠ some e.a := fun z => by
  rcases F.x with ⟨_, h⟩ | ⟨dd, vs, h1, h2, h3, h4, h5⟩
  · rw [h] at z; cases z
  · rw [h1] at z
    cases z
    have q := F.h
    rw [h4] at q; cases q
end
def tNew (Z : Zt) (j : Nat) (c : Str) (ns : List Str) (mk : D → List D) (C : Addr) : TE := fun σ H Q => ∃ (Y : Addr → Prop) (H2 : Hp) (val : D) (w : V), σ[j]? = some (some w) ∧ Rep Z Y H2 val w ∧ Same H2 H ∧
  ∀ a d H', Same H H' → H a = none → EnF Z Y H2 H' ⟨c, ns, mk val, a, d, C⟩ → Q (.ref a) H'
theorem same2 {H : Hp} {a d : Addr} {o1 o2 : HO} (ha : H a = none) (hd : H d = none) : Same H (upd (upd H d o1) a o2) := fun b o h => by
  have n1 : b ≠ a := fun z => by rw [z, ha] at h; cases h
  have n2 : b ≠ d := fun z => by rw [z, hd] at h; cases h
  rw [upd_ne n1, upd_ne n2]; exact h
section
variable {X : Cx} {Z : Zt} {c n1 n2 x : Str} {C fI : Addr} {fd : FuncData} {p q q2 pos : Pos} {j jj : Nat} {z : Str}
theorem pe_new1 (hZ : X.mg = Z.mg) (M : CanMk X c C fI fd ["self", n1] (spI1 C n1)) (hr : Room 2 X.A) (hg : Gl X c) (hN : X.N[j]? = some x) (hv : Vis X.env.scope x)
    (hd : (x == ("__debug__" : Str)) = false := by decide) (hcd : (x == ("__classdict__" : Str)) = false := by decide) (hdb : (c == ("__debug__" : Str)) = false := by decide)
    (he : starEach [.Name x q] X.env = (false, eval (.Name x q) X.env) :: starEach [] X.env := by rfl) (hpl : (backTo pos (starEach [] X.env)).any (·.1) = false := by rfl) :
    PE X (.Call (.Name c p) [.Name x q] [] pos) (tNew Z j c [n1] (fun v => [v]) C) := by
  refine pe_imp (pe_oexS M passes_no hr hg (pa_cons (pe_var hN hv hd hcd) pa_nil he) hdb he hpl) fun σ H Q h => ?_
  obtain ⟨Y, H2, val, w, hw, rw0, s2, k⟩ := h
  refine ⟨w, hw, by simp, fun a na => ⟨a, w, rfl, upd_same, fun d hd ne => ⟨rfl, d, [(n1, w)], upd_same, ne, by rw [upd_ne ne, upd_same], ?_⟩⟩⟩
  rw [upd_exo ne]
  have nd := (xo_ne na hd).2
  refine k a (some d) _ (same2 na nd) na ⟨by rw [← hZ]; exact M.mg, upd_same, Same.free s2 na, .inr ⟨d, [w], rfl, Same.free s2 nd, rfl, by rw [upd_ne ne, upd_same]; rfl, ?_⟩⟩
  simp only [RepL]
  exact ⟨w, [], rfl, rw0, rfl⟩
theorem pe_new2 (hZ : X.mg = Z.mg) (M : CanMk X c C fI fd ["self", n1, n2] (spI2 C n1 n2)) (hr : Room 2 X.A) (hg : Gl X c) (hN : X.N[j]? = some x) (hv : Vis X.env.scope x)
    (hd : (x == ("__debug__" : Str)) = false := by decide) (hcd : (x == ("__classdict__" : Str)) = false := by decide) (hdb : (c == ("__debug__" : Str)) = false := by decide)
    (he : starEach [.Constant (.str z) jj q2, .Name x q] X.env = (false, eval (.Constant (.str z) jj q2) X.env) :: starEach [.Name x q] X.env := by rfl)
    (he2 : starEach [.Name x q] X.env = (false, eval (.Name x q) X.env) :: starEach [] X.env := by rfl) (hpl : (backTo pos (starEach [.Name x q] X.env)).any (·.1) = false := by rfl) :
    PE X (.Call (.Name c p) [.Constant (.str z) jj q2, .Name x q] [] pos) (tNew Z j c [n2, n1] (fun v => [v, .str z]) C) := by
  refine pe_imp (pe_oexS M passes_no hr hg (pa_cons pe_str (pa_cons (pe_var hN hv hd hcd) pa_nil he2) he) hdb he hpl) fun σ H Q h => ?_
  obtain ⟨Y, H2, val, w, hw, rw0, s2, k⟩ := h
  refine ⟨w, hw, by simp, fun a na => ⟨a, .str z, w, rfl, upd_same, fun d hd ne => ⟨rfl, d, [(n2, w), (n1, .str z)], by rw [upd_ne (Ne.symm ne), upd_same], ne, upd_same, ?_⟩⟩⟩
  rw [upd_exo2 ne]
  have nd := (xo_ne na hd).2
  refine k a (some d) _ (same2 na nd) na ⟨by rw [← hZ]; exact M.mg, upd_same, Same.free s2 na, .inr ⟨d, [w, .str z], rfl, Same.free s2 nd, rfl, by rw [upd_ne ne, upd_same]; rfl, ?_⟩⟩
  simp only [RepL, Rep]
  exact ⟨w, _, rfl, rw0, _, _, rfl, rfl, rfl⟩
theorem pe_new0 (hZ : X.mg = Z.mg) (M : CanMk X c C fI fd ["self"] (spI0 C)) (hr : Room 2 X.A) (hg : Gl X c) (hdb : (c == ("__debug__" : Str)) = false := by decide) :
    PE X (.Call (.Name c p) [] [] pos) (tNew Z j c [] (fun _ => []) C) := by
  refine pe_imp (pe_oex0 M passes_no hr hg hdb) fun σ H Q h => ?_
  obtain ⟨Y, H2, val, w, hw, rw0, s2, k⟩ := h
  exact fun a na => k a none _ (same_new na) na ⟨by rw [← hZ]; exact M.mg, upd_same, Same.free s2 na, .inl ⟨rfl, rfl⟩⟩
end
structure Sc3 where
  c : Str
  ns : List Str
  ds : D → List D
  C : Addr
def tNews (Z : Zt) (j : Nat) : List Sc3 → TA
  | [] => tNil
  | s :: r => tCons (tNew Z j s.c s.ns s.ds s.C) (tNews Z j r)
theorem news_ok {Z : Zt} {j : Nat} {Y : Addr → Prop} {H2 : Hp} {val : D} {w : V} {σ : L2.St} (hw : σ[j]? = some (some w)) (rw0 : Rep Z Y H2 val w) : ∀ (sp : List Sc3) (es : List En) (H : Hp) (Q : List V → Hp → Prop), Good Z Y H2 H es → Same H2 H →
    (∀ en H', en.map En.key = sp.map (fun s => (s.c, s.ns, s.ds val)) → Good Z Y H2 H' (es ++ en) → Same H H' → Q (en.map fun e => .ref e.a) H') → tNews Z j sp σ H Q
  | [], es, H, Q, G, s2, k => k [] H rfl (by rw [List.append_nil]; exact G) (Same.refl H)
  | s :: r, es, H, Q, G, s2, k => by
    refine ⟨Y, H2, val, w, hw, rw0, s2, fun a d H1 s1 na F => ?_⟩
    refine news_ok hw rw0 r (es ++ [⟨s.c, s.ns, s.ds val, a, d, s.C⟩]) H1 _ (G.snoc s1 na F) (s2.trans s1) fun en H' hk G' s3 => ?_
    refine k (⟨s.c, s.ns, s.ds val, a, d, s.C⟩ :: en) H' (by rw [List.map_cons, List.map_cons, hk]; rfl) (by rw [List.append_assoc] at G'; exact G') (s1.trans s3)
def tFld (Z : Zt) (j : Nat) (k : Int) (i : Nat) (c : Str) (ns : List Str) : TE := fun σ H Q => ∃ (Y : Addr → Prop) (H2 : Hp) (es : List En) (e : En) (p : Addr) (d0 : D), σ[j]? = some (some (.ref p)) ∧ H p = some (.lst (es.map fun e => V.ref e.a)) ∧ atI es k = some e ∧ EnF Z Y H2 H e ∧ e.c = c ∧ e.ns = ns ∧
  e.ds[i]? = some d0 ∧ ∀ v, Rep Z Y H2 d0 v → Q v H
theorem atI_mapE {α β : Type} (f : α → β) {xs : List α} {i : Int} {x : α} (h : atI xs i = some x) : atI (xs.map f) i = some (f x) := by
  unfold atI at h ⊢
  rw [List.length_map]
  cases q : ixN xs.length i with
  | none => rw [q] at h; cases h
  | some m =>
    rw [q] at h
    simp only [Option.bind_some] at h ⊢
    rw [List.getElem?_map, h]; rfl
section
variable {X : Cx} {Z : Zt} {c f x : Str} {C : Addr} {p q pos pos2 : Pos} {j i jj : Nat} {k : Int} {ns : List Str}
theorem pe_fld (hZ : X.mg = Z.mg) (mg : Z.mg c = some (.ref C)) (T : XfC X.K C) (hno : PySem.W.findIn X.K (.ref C) f = some none) (hne : ns ≠ []) (hlk : ∀ vs : List V, ns.length = vs.length → (ns.zip vs).lookup f = vs[i]?) (hN : X.N[j]? = some x) (hv : Vis X.env.scope x)
    (hd : (x == ("__debug__" : Str)) = false := by decide) (hcd : (x == ("__classdict__" : Str)) = false := by decide)
    (hpl : PlainIx (.Constant (.int k) jj q)) (hbase : attributeBase (.Subscript (.Name x p) (.Constant (.int k) jj q) pos) f X.env (eval (.Subscript (.Name x p) (.Constant (.int k) jj q) pos) X.env) = eval (.Subscript (.Name x p) (.Constant (.int k) jj q) pos) X.env := by rfl) :
    PE X (.Attribute (.Subscript (.Name x p) (.Constant (.int k) jj q) pos) f pos2) (tFld Z j k i c ns) := by
  refine pe_imp (pe_atO (CE := C) (f := f) (pe_ix ix_seq (pe_var hN hv hd hcd) pe_int hpl) T hno hbase) fun σ H Q h => ?_
  obtain ⟨Y, H2, es, e, p, d0, h1, h2, h3, F, hc, hns, h5, q⟩ := h
  refine ⟨.ref p, h1, .inl ⟨p, _, k, .ref e.a, rfl, rfl, .inl (.inl h2), atI_mapE _ h3, ?_⟩⟩
  rcases F.x with ⟨z, _⟩ | ⟨dd, vs, x1, x2, x3, x4, x5⟩
  · exact absurd (hns.symm.trans z) hne
  obtain ⟨v, e1, e2⟩ := RepL.get x5 h5
  have eC : e.C = C := by
    have q := F.m
    rw [hc, mg] at q
    cases q; rfl
  refine ⟨e.a, dd, _, v, rfl, by rw [← eC, ← x1]; exact F.h, x4, ?_, q v e2⟩
  rw [hns] at x3 ⊢
  rw [hlk vs x3, e1]
end
structure Fl where
  k : Int
  i : Nat
  c : Str
  ns : List Str
def tFlds (Z : Zt) (j : Nat) : List Fl → TA
  | [] => tNil
  | s :: r => tCons (tFld Z j s.k s.i s.c s.ns) (tFlds Z j r)
theorem flds_ok {Z : Zt} {j : Nat} {Y : Addr → Prop} {H2 H : Hp} {val : D} {σ : L2.St} {p : Addr} {es : List En} (hp : σ[j]? = some (some (.ref p))) (hl : H p = some (.lst (es.map fun e => V.ref e.a))) (G : ∀ e ∈ es, EnF Z Y H2 H e) :
    ∀ (fs : List Fl) (Q : List V → Hp → Prop), (∀ s ∈ fs, ∃ ds : List D, atI (es.map En.key) s.k = some (s.c, s.ns, ds) ∧ ds[s.i]? = some val) → (∀ vs, RepL Z Y H2 (fs.map fun _ => val) vs → Q vs H) → tFlds Z j fs σ H Q
  | [], Q, _, k => k [] (by simp only [List.map_nil, RepL])
  | s :: r, Q, h, k => by
    obtain ⟨ds, h1, h2⟩ := h s List.mem_cons_self
    obtain ⟨e, he, hm, hk⟩ : ∃ e, atI es s.k = some e ∧ e ∈ es ∧ e.key = (s.c, s.ns, ds) := by
      unfold atI at h1 ⊢
      rw [List.length_map] at h1
      cases q : ixN es.length s.k with
      | none => rw [q] at h1; cases h1
      | some m =>
        rw [q] at h1
        simp only [Option.bind_some, List.getElem?_map] at h1 ⊢
        cases q2 : es[m]? with
        | none => rw [q2] at h1; cases h1
        | some e =>
          rw [q2] at h1
          simp only [Option.map_some, Option.some.injEq] at h1
          exact ⟨e, rfl, List.mem_of_getElem? q2, h1⟩
    have k1 : e.c = s.c := congrArg (·.1) hk
    have k2 : e.ns = s.ns := congrArg (·.2.1) hk
    have k3 : e.ds = ds := congrArg (·.2.2) hk
    refine ⟨Y, H2, es, e, p, val, hp, hl, he, G e hm, k1, k2, by rw [k3]; exact h2, fun v rv => ?_⟩
    refine flds_ok hp hl G r _ (fun s' hs => h s' (List.mem_cons_of_mem _ hs)) fun vs rvs => k (v :: vs) ?_
    simp only [List.map_cons, RepL]
    exact ⟨v, vs, rfl, rv, rvs⟩
end PD

set_option linter.all false
set_option maxRecDepth 100000
set_option maxHeartbeats 2000000
namespace PD
open PySem PySem.Spec PyProof.Rows L2 LamX NdefX
structure Md (Z : Zt) (Y : Addr → Prop) (H0 H2 H : Hp) : Prop where
  keep : ∀ a o, H0 a = some o → (∀ ps, o ≠ .tbl ps) → H a = some o
  ktbl : ∀ a ps, H0 a = some (.tbl ps) → ∃ qs, H a = some (.tbl qs)
  st0 : ∀ a, H0 a ≠ none → H a ≠ none
  x0 : ∀ a, Y a → H a ≠ none
  tb : Tabs Z.T H
  k2 : ∀ b o, H2 b = some o → ¬ Y b → (∀ ps, o ≠ .tbl ps) → H b = some o
  t2 : ∀ a ps, H2 a = some (.tbl ps) → ∃ qs, H a = some (.tbl qs)
section
variable {Z : Zt} {Y : Addr → Prop} {H0 H2 H H' : Hp} {E : XK} {s : S} {Lv : Nat → List Addr} {σ : L2.St} {a C : Addr} {d : Option Addr}
theorem Md.of (R : Rl Z (Gp Y H0 E) s Lv σ H) : Md Z Y H0 H H :=
  ⟨fun a o h t => R.keep a o h (fun z => by cases z) t, R.ktbl, R.st0, R.x0, R.tb, fun _ _ h _ _ => h, fun _ ps h => ⟨ps, h⟩⟩
theorem Md.kp (M : Md Z Y H0 H2 H) (k : Kp Z H H') : Md Z Y H0 H2 H' :=
  ⟨fun a o h t => k.keep a o (M.keep a o h t) t, fun a ps h => let ⟨qs, e⟩ := M.ktbl a ps h; k.ktbl a qs e, fun a h => k.there (M.st0 a h), fun a h => k.there (M.x0 a h), k.tabs M.tb,
    fun b o h n t => k.keep b o (M.k2 b o h n t) t, fun a ps h => let ⟨qs, e⟩ := M.t2 a ps h; k.ktbl a qs e⟩
theorem Md.same (M : Md Z Y H0 H2 H) (k : Same H H') : Md Z Y H0 H2 H' := M.kp (Kp.same k)
theorem Md.fw (M : Md Z Y H0 H2 H) (R : Rl Z (Gp Y H0 E) s Lv σ H') (k : ∀ a o, H a = some o → ¬ Y a → (∀ ps, o ≠ .tbl ps) → H' a = some o) (kt : ∀ a ps, H a = some (.tbl ps) → ∃ qs, H' a = some (.tbl qs)) : Md Z Y H0 H2 H' :=
  ⟨fun a o h t => R.keep a o h (fun z => by cases z) t, R.ktbl, R.st0, R.x0, R.tb, fun b o h n t => k b o (M.k2 b o h n t) n t, fun a ps h => let ⟨qs, e⟩ := M.t2 a ps h; kt a qs e⟩
theorem Md.del (M : Md Z Y H0 H2 H) (n0 : H0 a = none) (n2 : H2 a = none) (nY : ¬ Y a) (ha : H a = some (exo a C d)) (nc : ∀ q, H a ≠ some (CodeO a q)) : Md Z Y H0 H2 (delH H a) := by
  have nt : ∀ ps, H a ≠ some (.tbl ps) := fun ps z => by rw [ha] at z; cases z
  have F := fw_del (Z := Z) (Y := fun b => b = a) rfl nt nc
  have e0 : ∀ {b}, H0 b ≠ none → b ≠ a := fun h z => h (by rw [z]; exact n0)
  have e2 : ∀ {b}, H2 b ≠ none → b ≠ a := fun h z => h (by rw [z]; exact n2)
  refine ⟨fun b o h t => ?_, fun b ps h => ?_, fun b h => ?_, fun b h => ?_, F.tabs M.tb, fun b o h n t => ?_, fun b ps h => ?_⟩
  · rw [delH_ne (e0 (by rw [h]; simp))]; exact M.keep b o h t
  · rw [delH_ne (e0 (by rw [h]; simp))]; exact M.ktbl b ps h
  · rw [delH_ne (e0 h)]; exact M.st0 b h
  · rw [delH_ne (fun z => nY (by rw [← z]; exact h))]; exact M.x0 b h
  · rw [delH_ne (e2 (by rw [h]; simp))]; exact M.k2 b o h n t
  · rw [delH_ne (e2 (by rw [h]; simp))]; exact M.t2 b ps h
theorem Md.rl (M : Md Z Y H0 H2 H) (hs : s.length = σ.length) (sl : ∀ (i : Nat) x, s[i]? = some x → SloR Z Y H x σ[i]? []) : Rl Z (Gp Y H0 E) s (fun _ => []) σ H := by
  have F : Fw Z Y H ((Gp Y H0 E).X fun _ => []) H := Fw.refl.less fun b h => by
    rcases h with h | ⟨i, h⟩
    · exact h
    · cases h
  refine ⟨hs, fun i x h => (sl i x h).mono F (fun b hb => (by cases hb)), fun _ _ => rfl, fun _ => List.nodup_nil, fun i j b hb => (by cases hb), fun i b hb => (by cases hb), fun b o h _ t => M.keep b o h t, M.ktbl, M.st0, M.x0, fun b hb => (by cases hb), M.tb, fun i v h => (by cases h), fun b o h => False.elim h⟩
theorem ExR.del {Y' : Addr → Prop} {c : Str} {ns : List Str} {ds : List D} {cls : Value} {d' : Option Addr} (x : ExR Z Y' H c ns ds cls d') (hY : Y' a) (ha : H a = some (exo a C d)) (nc : ∀ q, H a ≠ some (CodeO a q)) (hd : d' ≠ some a) : ExR Z (fun b => Y' b ∧ b ≠ a) (delH H a) c ns ds cls d' := by
  have nt : ∀ ps, H a ≠ some (.tbl ps) := fun ps z => by rw [ha] at z; cases z
  have F := fw_del (Z := Z) hY nt nc
  obtain ⟨C', e1, e2, e3⟩ := x
  exact ⟨C', e1, e2, e3.imp id fun ⟨dd, vs, h1, h2, h3, h4⟩ => ⟨dd, vs, h1, h2, by rw [delH_ne (fun z => hd (by rw [h1, z]))]; exact h3, RepL.mono F _ _ h4⟩⟩
theorem EnF.ask {Y2 : Addr → Prop} {e : En} (F : EnF Z Y2 H2 H e) (M : Md Z Y H0 H2 H) (s2 : ∀ b, Y b → Y2 b) : ExR Z (fun b => Y b ∨ b = e.a) H e.c e.ns e.ds (.ref e.C) e.d :=
  F.ex (fun b h => h.elim (fun h => .inl (s2 b h)) fun h => .inr (by rw [h]; exact F.n)) (fun b o h n t => M.k2 b o h (fun z => n (s2 b z)) t) M.t2 fun _ => M.tb
end
end PD

set_option linter.all false
set_option maxRecDepth 100000
set_option maxHeartbeats 2000000
namespace PD
open PySem PySem.Spec PyProof.Rows L2 LamX NdefX
def tSu (Z : Zt) (known : List Str) (m : Str → List Str → List D → Option D) (g : List D → FR) (je jo : Nat) (a : Addr) (cls : Value) (d : Option Addr) : TS := fun Dn σ H =>
  σ[je]? = some (some (.ref a)) ∧ σ[jo]? = some (some (.ref a)) ∧ (∃ (Y : Addr → Prop) (c : Str) (ns : List Str) (ds : List D) (CE : Addr) (r : D), cls = .ref CE ∧ c ∈ known ∧ (∀ x, Y x → H x ≠ none) ∧ Tabs Z.T H ∧ ExR Z Y H c ns ds (.ref CE) d ∧ m c ns ds = some r ∧ g [r, r] = .ok (.d (.bl true))) ∧ ∀ H', Kp Z H H' → Dn.nx σ H'
section
variable {P : Program} {w : World} {Z : Zt} {base : Heap}
def tT3 (T : Top P Z base) : TT := tOr (tNot (tB (tCB (rIsO Z.K) (tCons (tVar 5) (tCons (tC (.ref T.C_LoftError)) tNil))))) (tOr (tNot (tB (tCB (rIsO Z.K) (tCons (tVar 5) (tCons (tC (.ty "ValueError")) tNil)))))
  (tTest (tOp (rD2 Z gEq) (fun σ H Q => ∃ a, σ[5]? = some (some (.ref a)) ∧ tRefO Z knownL m__law_refusal a H Q) (tTup (tCons (tC (.str "other")) tNil)))))
def tTry (T : Top P Z base) (X : Cx) : TS := fun D σ H => ∃ (a C : Addr) (d : Option Addr), σ[5]? = some (some (.ref a)) ∧ H a = some (exo a C d) ∧ Fr0 X.H_0 a ∧ Raises X (.ref C) ∧ PySem.W.exmOne X.K (.ref C) (.ref T.C_LoftError) = some true ∧
  ((∀ q, H a ≠ some (CodeO a q)) → tSu Z knownL m__law_refusal m__law_same 6 5 a (.ref C) d { nx := fun σ' H' => D.nx (σ'.set 6 none) H', rt := D.rt, bk := fun σ' H' => D.bk (σ'.set 6 none) H', ct := fun σ' H' => D.ct (σ'.set 6 none) H' } (σ.set 6 (some (.ref a))) (delH H a))
def tBody (T : Top P Z base) (X : Cx) : TS := tSeq (tIfS (tT3 T) (tRet (tC (.bl false))) tNext) (tTry T X)
def sp1 (T : Top P Z base) : List Sc3 := [⟨"BadRig", ["place", "part"], fun v => [v, .str "points"], T.C_BadRig⟩, ⟨"BadNumber", ["value"], fun v => [v], T.C_BadNumber⟩, ⟨"BadLines", ["value"], fun v => [v], T.C_BadLines⟩, ⟨"UnknownPoint", ["name"], fun v => [v], T.C_UnknownPoint⟩,
  ⟨"UnknownMember", ["name"], fun v => [v], T.C_UnknownMember⟩, ⟨"BadTackle", ["place"], fun v => [v], T.C_BadTackle⟩, ⟨"BadPieces", ["place"], fun v => [v], T.C_BadPieces⟩]
def sp2 (T : Top P Z base) : List Sc3 := [⟨"BadText", ["line"], fun v => [v], T.C_BadText⟩, ⟨"BadLine", ["line"], fun v => [v], T.C_BadLine⟩, ⟨"NotHeld", [], fun _ => [], T.C_NotHeld⟩, ⟨"BadClaim", [], fun _ => [], T.C_BadClaim⟩, ⟨"NothingDone", [], fun _ => [], T.C_NothingDone⟩]
def fl9 : List Fl := [⟨0, 0, "BadRig", ["place", "part"]⟩, ⟨1, 0, "BadNumber", ["value"]⟩, ⟨2, 0, "BadLines", ["value"]⟩, ⟨3, 0, "UnknownPoint", ["name"]⟩, ⟨4, 0, "UnknownMember", ["name"]⟩, ⟨5, 0, "BadTackle", ["place"]⟩, ⟨6, 0, "BadPieces", ["place"]⟩, ⟨7, 0, "BadText", ["line"]⟩, ⟨8, 0, "BadLine", ["line"]⟩]
noncomputable def f5 : S → R Bool := cVal (eBin gNe (eLcD [5] (gN 5) (iSeq (eV 4)) (cNot (cVal (eFz (rCall 2 m__law_same (aCons (eV 5) (aCons (eV 2) aNil)))))) (eV 5)) (eLst aNil))
def tRest (T : Top P Z base) (X : Cx) (Γ : Gm) : TS := tSeq (tAsg (tLst (tNews Z 2 (sp1 T))) (gName 3)) (tSeq (tAsg (tOp rCat (tVar 3) (tLst (tNews Z 2 (sp2 T)))) (gName 3)) (tSeq (tAsg (tLst (tFlds Z 3 fl9)) (gName 4))
  (tSeq (tIfS (tOr (tT Z Γ f5) (tTest (tOp (rD2 Z gNe) (tFld Z 3 0 1 "BadRig" ["place", "part"]) (tC (.str "points"))))) (tRet (tC (.bl false))) tNext) (tSeq (tFor (iList Z.K (tVar 3)) (gName 5) (tBody T X)) (tRet (tC (.bl true)))))))
end
end PD

set_option linter.all false
set_option maxRecDepth 100000
set_option maxHeartbeats 2000000
namespace PD
open PySem PySem.Spec PyProof.Rows L2 LamX NdefX
section
variable {P : Program} {w : World} {Z : Zt} {base : Heap}
theorem pss_rest (T : Top P Z base) (cdv : Value) (A : Around) (outer : List Env) (s : Shared) (Y : Addr → Prop) (H : Hp) (E : XK) (hr : Room 3 (A.deeper (envOfC "law" (defScope s_law) s.heap.objs.size T.a_law cdv))) (hgA : A.guards = some []) :
    PSs (cxOf (L2.CX P w) P w Z.K Z.mg base N_law "law" (defScope s_law) T.a_law cdv A outer s H E) ((defBody s_law).drop 2) (tRest T (cxOf (L2.CX P w) P w Z.K Z.mg base N_law "law" (defScope s_law) T.a_law cdv A outer s H E) (Gp Y H E)) := by
  have hpo : PassesOwn (model P w) (cxOf (L2.CX P w) P w Z.K Z.mg base N_law "law" (defScope s_law) T.a_law cdv A outer s H E).A (cxOf (L2.CX P w) P w Z.K Z.mg base N_law "law" (defScope s_law) T.a_law cdv A outer s H E).env (cxOf (L2.CX P w) P w Z.K Z.mg base N_law "law" (defScope s_law) T.a_law cdv A outer s H E).xe := passes_of rfl
  have hu64 := hr.units
  exact (pss_cons (ps_set sc_law.nd rfl (.inl rfl) (pe_lst (pa_cons (pe_new2 (j := 2) rfl ⟨T.oe_BadRig, T.ini_BadRig, T.ty_BadRig, okI_BadRig T, T.bi_BadRig, T.g_BadRig⟩ (hr.mono (by decide)) (by rfl) rfl (by first | exact .inl rfl | exact .inr (.inl rfl))) (pa_cons (pe_new1 (j := 2) rfl ⟨T.oe_BadNumber, T.ini_BadNumber, T.ty_BadNumber, okI_BadNumber T, T.bi_BadNumber, T.g_BadNumber⟩ (hr.mono (by decide)) (by rfl) rfl (by first | exact .inl rfl | exact .inr (.inl rfl))) (pa_cons (pe_new1 (j := 2) rfl ⟨T.oe_BadLines, T.ini_BadLines, T.ty_BadLines, okI_BadLines T, T.bi_BadLines, T.g_BadLines⟩ (hr.mono (by decide)) (by rfl) rfl (by first | exact .inl rfl | exact .inr (.inl rfl))) (pa_cons (pe_new1 (j := 2) rfl ⟨T.oe_UnknownPoint, T.ini_UnknownPoint, T.ty_UnknownPoint, okI_UnknownPoint T, T.bi_UnknownPoint, T.g_UnknownPoint⟩ (hr.mono (by decide)) (by rfl) rfl (by first | exact .inl rfl | exact .inr (.inl rfl))) (pa_cons (pe_new1 (j := 2) rfl ⟨T.oe_UnknownMember, T.ini_UnknownMember, T.ty_UnknownMember, okI_UnknownMember T, T.bi_UnknownMember, T.g_UnknownMember⟩ (hr.mono (by decide)) (by rfl) rfl (by first | exact .inl rfl | exact .inr (.inl rfl))) (pa_cons (pe_new1 (j := 2) rfl ⟨T.oe_BadTackle, T.ini_BadTackle, T.ty_BadTackle, okI_BadTackle T, T.bi_BadTackle, T.g_BadTackle⟩ (hr.mono (by decide)) (by rfl) rfl (by first | exact .inl rfl | exact .inr (.inl rfl))) (pa_cons (pe_new1 (j := 2) rfl ⟨T.oe_BadPieces, T.ini_BadPieces, T.ty_BadPieces, okI_BadPieces T, T.bi_BadPieces, T.g_BadPieces⟩ (hr.mono (by decide)) (by rfl) rfl (by first | exact .inl rfl | exact .inr (.inl rfl))) pa_nil))))))))) (pss_cons (ps_set sc_law.nd rfl (.inl rfl) (pe_op op_cat (pe_var (i := 3) rfl (by first | exact .inl rfl | exact .inr (.inl rfl))) (pe_lst (pa_cons (pe_new1 (j := 2) rfl ⟨T.oe_BadText, T.ini_BadText, T.ty_BadText, okI_BadText T, T.bi_BadText, T.g_BadText⟩ (hr.mono (by decide)) (by rfl) rfl (by first | exact .inl rfl | exact .inr (.inl rfl))) (pa_cons (pe_new1 (j := 2) rfl ⟨T.oe_BadLine, T.ini_BadLine, T.ty_BadLine, okI_BadLine T, T.bi_BadLine, T.g_BadLine⟩ (hr.mono (by decide)) (by rfl) rfl (by first | exact .inl rfl | exact .inr (.inl rfl))) (pa_cons (pe_new0 (j := 2) rfl ⟨T.oe_NotHeld, T.ini_NotHeld, T.ty_NotHeld, okI_NotHeld T, T.bi_NotHeld, T.g_NotHeld⟩ (hr.mono (by decide)) (by rfl)) (pa_cons (pe_new0 (j := 2) rfl ⟨T.oe_BadClaim, T.ini_BadClaim, T.ty_BadClaim, okI_BadClaim T, T.bi_BadClaim, T.g_BadClaim⟩ (hr.mono (by decide)) (by rfl)) (pa_cons (pe_new0 (j := 2) rfl ⟨T.oe_NothingDone, T.ini_NothingDone, T.ty_NothingDone, okI_NothingDone T, T.bi_NothingDone, T.g_NothingDone⟩ (hr.mono (by decide)) (by rfl)) pa_nil)))))))) (pss_cons (ps_set sc_law.nd rfl (.inl rfl) (pe_lst (pa_cons (pe_fld (j := 3) (i := 0) (c := "BadRig") (ns := ["place", "part"]) rfl T.g_BadRig T.ec_BadRig.2 T.nx_BadRig_place (by decide) (fun vs h => match vs, h with | [_, _], _ => rfl) rfl (.inl rfl) (hpl := fun _ _ => rfl)) (pa_cons (pe_fld (j := 3) (i := 0) (c := "BadNumber") (ns := ["value"]) rfl T.g_BadNumber T.ec_BadNumber.2 T.nx_BadNumber_value (by decide) (fun vs h => match vs, h with | [_], _ => rfl) rfl (.inl rfl) (hpl := fun _ _ => rfl)) (pa_cons (pe_fld (j := 3) (i := 0) (c := "BadLines") (ns := ["value"]) rfl T.g_BadLines T.ec_BadLines.2 T.nx_BadLines_value (by decide) (fun vs h => match vs, h with | [_], _ => rfl) rfl (.inl rfl) (hpl := fun _ _ => rfl)) (pa_cons (pe_fld (j := 3) (i := 0) (c := "UnknownPoint") (ns := ["name"]) rfl T.g_UnknownPoint T.ec_UnknownPoint.2 T.nx_UnknownPoint_name (by decide) (fun vs h => match vs, h with | [_], _ => rfl) rfl (.inl rfl) (hpl := fun _ _ => rfl)) (pa_cons (pe_fld (j := 3) (i := 0) (c := "UnknownMember") (ns := ["name"]) rfl T.g_UnknownMember T.ec_UnknownMember.2 T.nx_UnknownMember_name (by decide) (fun vs h => match vs, h with | [_], _ => rfl) rfl (.inl rfl) (hpl := fun _ _ => rfl)) (pa_cons (pe_fld (j := 3) (i := 0) (c := "BadTackle") (ns := ["place"]) rfl T.g_BadTackle T.ec_BadTackle.2 T.nx_BadTackle_place (by decide) (fun vs h => match vs, h with | [_], _ => rfl) rfl (.inl rfl) (hpl := fun _ _ => rfl)) (pa_cons (pe_fld (j := 3) (i := 0) (c := "BadPieces") (ns := ["place"]) rfl T.g_BadPieces T.ec_BadPieces.2 T.nx_BadPieces_place (by decide) (fun vs h => match vs, h with | [_], _ => rfl) rfl (.inl rfl) (hpl := fun _ _ => rfl)) (pa_cons (pe_fld (j := 3) (i := 0) (c := "BadText") (ns := ["line"]) rfl T.g_BadText T.ec_BadText.2 T.nx_BadText_line (by decide) (fun vs h => match vs, h with | [_], _ => rfl) rfl (.inl rfl) (hpl := fun _ _ => rfl)) (pa_cons (pe_fld (j := 3) (i := 0) (c := "BadLine") (ns := ["line"]) rfl T.g_BadLine T.ec_BadLine.2 T.nx_BadLine_line (by decide) (fun vs h => match vs, h with | [_], _ => rfl) rfl (.inl rfl) (hpl := fun _ _ => rfl)) pa_nil))))))))))) (pss_cons (ps_if (pw_or (dt_cmp bl_ne (od_ne rfl hu64) (de_lc (own := [("one", 5)]) rfl sc_law.nd (di_seq rfl (de_v 4)) (blkOk_by (own := [("one", 5)]) (N := N_law) (sc := defScope s_law) (by decide +kernel)) (by decide) rfl (fun _ _ _ _ _ _ => (dg_n (i := 5) sc_law.nd)) (fun _ _ _ _ _ _ => (dts_one (dt_not (dt_val (de_callG (ok__law_same T) (hr.mono (by decide)) hgA (by rfl) T.g__law_same T.F__law_same.kp T.b__law_same (px_never fun _ _ _ _ h => h) (econst_f fun _ _ _ _ h => h) (da_cons (de_v 5) (da_cons (de_v 2) da_nil))))))) (fun _ _ _ _ _ _ => (de_v 5))) (de_lst da_nil)) (pw_or1 (pt_cmpR (od_ne rfl hu64) (pe_fld (j := 3) (i := 1) (c := "BadRig") (ns := ["place", "part"]) rfl T.g_BadRig T.ec_BadRig.2 T.nx_BadRig_part (by decide) (fun vs h => match vs, h with | [_, _], _ => rfl) rfl (.inl rfl) (hpl := fun _ _ => rfl)) pe_str (nomark _)))).pt (pss_one (ps_ret pe_bl)) pss_nil) (pss_cons (ps_for hpo rfl (pi_list (pe_var (i := 3) rfl (by first | exact .inl rfl | exact .inr (.inl rfl)))) (pg_name sc_law.nd rfl (by first | exact .inl rfl | exact .inr (.inl rfl))) (pss_cons (ps_if (pw_or (pt_not (pt_val (pe_callB call_isO (by rfl) T.z_isinstance (by decide +kernel) (pa_cons (pe_var (i := 5) rfl (by first | exact .inl rfl | exact .inr (.inl rfl))) (pa_cons (pe_glob (v := .ref T.C_LoftError) (u := .ref T.C_LoftError) (by rfl) T.g_LoftError rfl) pa_nil))))) (pw_or (pt_not (pt_val (pe_callB call_isO (by rfl) T.z_isinstance (by decide +kernel) (pa_cons (pe_var (i := 5) rfl (by first | exact .inl rfl | exact .inr (.inl rfl))) (pa_cons (pe_bltn (v := .ty "ValueError") (u := .type "ValueError") (by rfl) T.z_ValueError (by decide +kernel) rfl) pa_nil))))) (pw_or1 (pt_cmpR (od_eq rfl hu64) (pe_refO (j := 5) (ok__law_refusal T) rfl rfl hr (by rfl) T.g__law_refusal T.F__law_refusal.kp T.b__law_refusal rfl (by first | exact .inl rfl | exact .inr (.inl rfl))) (pe_tup (pa_cons pe_str pa_nil)) (nomark _))))).pt (pss_one (ps_ret pe_bl)) pss_nil) (pss_one (ps_tryRaise (i := 6) (j := 5) rfl rfl rfl rfl sc_law.nd rfl (by rfl) ⟨by rfl, by decide, .inl T.g_LoftError⟩ rfl (.inl rfl) (by decide) (by decide) (fun a oe cls d pn hz hf => pss_suite (je := 6) (jo := 5) (X := cxOf (L2.CX P w) P w Z.K Z.mg base N_law "law" (defScope s_law) T.a_law cdv A outer s H E) (ok__law_refusal T) (okH__law_same T) rfl rfl hz hf hr (L2H.roomH_of (hr.mono (by decide))) hgA (by rfl) T.g__law_refusal T.F__law_refusal.kp T.b__law_refusal (by rfl) T.g__law_same T.F__law_same.kp T.b__law_same rfl (.inl rfl) (by decide) (by decide) rfl (.inl rfl) (by decide) (by decide) (by rfl) (by rfl) (by rfl) (by rfl) (by rfl) (by rfl) (by rfl) (by intro _; rfl)))))) (pss_one (ps_ret pe_bl)))))))
end
end PD

set_option linter.all false
set_option maxRecDepth 100000
set_option maxHeartbeats 2000000
namespace PD
open PySem PySem.Spec PyProof.Rows L2 LamX NdefX
def nos : S := List.replicate 7 .no
def s5L (val : D) : S := [.no, .no, .fz val, .no, .fz (.lst (List.replicate 9 val)), .no, .no]
def keysA (val : D) : List (Str × List Str × List D) := [("BadRig", ["place", "part"], [val, .str "points"]), ("BadNumber", ["value"], [val]), ("BadLines", ["value"], [val]), ("UnknownPoint", ["name"], [val]), ("UnknownMember", ["name"], [val]), ("BadTackle", ["place"], [val]), ("BadPieces", ["place"], [val])]
def keysB (val : D) : List (Str × List Str × List D) := [("BadText", ["line"], [val]), ("BadLine", ["line"], [val]), ("NotHeld", [], []), ("BadClaim", [], []), ("NothingDone", [], [])]
def okEn (k : Str × List Str × List D) : Prop := ∃ r, m__law_refusal k.1 k.2.1 k.2.2 = some r ∧ m__law_same [r, r] = .ok (.d (.bl true)) ∧ gEq [r, .tup [.str "other"]] = some (.bl false)
def okVal (val : D) : Prop := (∀ k ∈ keysA val ++ keysB val, okEn k) ∧ ∃ s', f5 (s5L val) = .ok false s'
open Classical in
noncomputable def bX : S → SR := fun s => match s[(2 : Nat)]? with
  | some (.fz val) => if s.length = 7 ∧ okVal val then .rt (.d (.bl true)) nos else .st
  | _ => .st
theorem bX_ok {s : S} {Z : Zt} {Γ : Gm} {Lv : Nat → List Addr} {H : Hp} {Dn : Ends} (h : Ps Z Γ (bX s) Lv H Dn) : ∃ val, s[(2 : Nat)]? = some (.fz val) ∧ s.length = 7 ∧ okVal val ∧ Ps Z Γ (.rt (.d (.bl true)) nos) Lv H Dn := by
  unfold bX at h
  cases e : s[(2 : Nat)]? with
  | none => rw [e] at h; exact h.elim
  | some x =>
    cases x with
    | no => rw [e] at h; exact h.elim
    | ow o => rw [e] at h; exact h.elim
    | fz val =>
      rw [e] at h
      dsimp only at h
      by_cases q : s.length = 7 ∧ okVal val
      · rw [if_pos q] at h; exact ⟨val, rfl, q.1, q.2, h⟩
      · rw [if_neg q] at h; exact h.elim
theorem bX_at {s : S} {val : D} (h2 : s[(2 : Nat)]? = some (.fz val)) (hl : s.length = 7) (ok : okVal val) : bX s = .rt (.d (.bl true)) nos := by
  unfold bX
  rw [h2]
  exact if_pos ⟨hl, ok⟩
section
variable {P : Program} {w : World} {Z : Zt} {base : Heap}
theorem oe_all (T : Top P Z base) : ∀ c ∈ knownL, ∀ CE : Addr, Z.mg c = some (.ref CE) → OexC Z.K CE := fun c hc CE h => by
  simp only [knownL, List.mem_cons, List.not_mem_nil, or_false] at hc
  rcases hc with rfl | rfl | rfl | rfl | rfl | rfl | rfl | rfl | rfl | rfl | rfl | rfl
  · have q := T.g_BadClaim.symm.trans h
    cases q; exact T.oe_BadClaim
  · have q := T.g_BadLine.symm.trans h
    cases q; exact T.oe_BadLine
  · have q := T.g_BadLines.symm.trans h
    cases q; exact T.oe_BadLines
  · have q := T.g_BadNumber.symm.trans h
    cases q; exact T.oe_BadNumber
  · have q := T.g_BadPieces.symm.trans h
    cases q; exact T.oe_BadPieces
  · have q := T.g_BadRig.symm.trans h
    cases q; exact T.oe_BadRig
  · have q := T.g_BadTackle.symm.trans h
    cases q; exact T.oe_BadTackle
  · have q := T.g_BadText.symm.trans h
    cases q; exact T.oe_BadText
  · have q := T.g_NotHeld.symm.trans h
    cases q; exact T.oe_NotHeld
  · have q := T.g_NothingDone.symm.trans h
    cases q; exact T.oe_NothingDone
  · have q := T.g_UnknownMember.symm.trans h
    cases q; exact T.oe_UnknownMember
  · have q := T.g_UnknownPoint.symm.trans h
    cases q; exact T.oe_UnknownPoint
theorem ve_true : ∀ c ∈ knownL, isE c "ValueError" = true := by decide +kernel
variable {Y Y2 : Addr → Prop} {H0 H2 : Hp} {X : Cx}
theorem turn_ok (T : Top P Z base) (hK : X.K = Z.K) (hX0 : X.H_0 = H0) (sub : ∀ b, Y b → Y2 b) (n02 : ∀ b, H2 b = none → H0 b = none) (ny : ∀ b, H2 b = none → ¬ Y b) {e : En} {σ : L2.St} {H : Hp} {D : Ends} (hs : σ[5]? = some (some (.ref e.a))) (hl : σ.length = 7)
    (M : Md Z Y H0 H2 H) (F : EnF Z Y2 H2 H e) (kn : e.c ∈ knownL) (ok : okEn e.key)
    (q : ∀ σ' H', σ'.length = 7 → Md Z Y H0 H2 H' → (∀ b o, b ≠ e.a → H b = some o → (∀ ps, o ≠ .tbl ps) → H' b = some o) → D.nx σ' H') : tBody T X D σ H := by
  obtain ⟨r, er, es, eo⟩ := ok
  have R := rc_all T e.c kn e.C F.m
  have hfs : ∀ dd, e.d = some dd → ∃ fs, H dd = some (.xd fs) := fun dd z => by
    rcases F.x with ⟨_, h⟩ | ⟨d', vs, h1, h2, h3, h4, h5⟩
    · rw [h] at z; cases z
    · rw [h1] at z; cases z; exact ⟨_, h4⟩
  have ny' := ny _ F.n
  have hY' : ∀ x, (Y x ∨ x = e.a) → H x ≠ none := fun x hx => hx.elim (M.x0 x) fun h => by rw [h, F.h]; simp
  have xr := F.ask M sub
  have hx : Z.mg e.c = some (.ref e.C) ∧ ((e.ns = [] ∧ e.d = none) ∨ ∃ dd vs, e.d = some dd ∧ e.ns.length = vs.length ∧ H dd = some (.xd (e.ns.zip vs)) ∧ RepL Z (fun b => Y b ∨ b = e.a) H e.ds vs) := by
    obtain ⟨C', e1, e2, e3⟩ := xr
    exact ⟨F.m, e3⟩
  -- the test
  refine ⟨.ref e.a, hs, e.a, e.C, e.d, .ref T.C_LoftError, .ref T.C_LoftError, true, rfl, fun u h => h, R.C, kle_all T e.c kn e.C F.m, F.h, hfs, true, rfl, ?_⟩
  dsimp only
  rw [if_neg (show ¬ ((!true) = true) by decide)]
  refine ⟨.ref e.a, hs, e.a, e.C, e.d, .ty "ValueError", .type "ValueError", true, rfl, fun u h => h, R.C, by rw [R.ve, ve_true e.c kn], F.h, hfs, true, rfl, ?_⟩
  dsimp only
  rw [if_neg (show ¬ ((!true) = true) by decide)]
  refine ⟨e.a, hs, e.C, e.d, fun b => Y b ∨ b = e.a, e.c, e.ns, e.ds, F.h, .inr rfl, kn, hY', M.tb, F.dne, hx, r, er, fun v H1 k1 rv => ?_⟩
  refine ⟨by simp [sizeLine], fun p np => ?_⟩
  have S1 : Same H1 (upd H1 p (.tup [V.str "other"])) := same_new np
  refine ⟨fun b => (Y b ∨ b = e.a) ∧ b ≠ e.a, [r, .tup [.str "other"]], .bl false, fun x hx => same_st S1 (k1.there (hY' x hx.1)), ?_, eo, fun v' H3 s3 rv' => ?_⟩
  · refine ⟨v, _, rfl, .inl (Rep.mono (Fw.same S1) _ _ rv), V.ref p, _, rfl, .inl ?_, rfl⟩
    simp only [Rep, RepL]
    exact ⟨p, [V.str "other"], rfl, .inl ⟨fun hx => k1.there (hY' p hx.1) np, upd_same⟩, V.str "other", [], rfl, rfl, rfl⟩
  obtain rfl : v' = V.bl false := by simpa only [Rep] using rv'
  refine ⟨false, rfl, ?_⟩
  dsimp only
  rw [if_neg Bool.false_ne_true]
  -- the try
  have kA : Kp Z H H3 := k1.trans (Kp.same (S1.trans s3))
  have M3 := M.kp kA
  have F3 := F.nw (Nw.kp kA)
  have O := oe_all T e.c kn e.C F.m
  refine ⟨e.a, e.C, e.d, hs, F3.h, fr0_none (by rw [hX0]; exact n02 _ F.n), raises_own (by rw [hK]; exact O.exC) (by rw [hK]; exact O.tyC), by rw [hK]; exact xm_all T e.c kn e.C F.m, fun nc => ?_⟩
  have Md' := M3.del (n02 _ F.n) F.n ny' F3.h nc
  have x3 := (F3.ask M3 sub).del (.inr rfl) F3.h nc F.dne
  have h6 : (σ.set 6 (some (.ref e.a)))[6]? = some (some (.ref e.a)) := by rw [List.getElem?_set_self (by omega)]
  have h5 : (σ.set 6 (some (.ref e.a)))[5]? = some (some (.ref e.a)) := by rw [List.getElem?_set_ne (by decide)]; exact hs
  refine ⟨h6, h5, ⟨fun b => (Y b ∨ b = e.a) ∧ b ≠ e.a, e.c, e.ns, e.ds, e.C, r, rfl, kn, fun x hx => ?_, Md'.tb, x3, er, es⟩, fun H4 k4 => ?_⟩
  · rw [delH_ne hx.2]
    exact kA.there (hY' x hx.1)
  · exact q _ H4 (by simp [hl]) (Md'.kp k4) fun b o n h t => k4.keep b o (by rw [delH_ne n]; exact kA.keep b o h t) t
end
end PD

set_option linter.all false
set_option maxRecDepth 100000
set_option maxHeartbeats 2000000
namespace PD
open PySem PySem.Spec PyProof.Rows L2 LamX NdefX
section
variable {P : Program} {w : World} {Z : Zt} {base : Heap} {Y : Addr → Prop} {H0 : Hp} {X : Cx} {E : XK}
theorem loop_ok (T : Top P Z base) {Y2 : Addr → Prop} {H2 : Hp} (hK : X.K = Z.K) (hX0 : X.H_0 = H0) (sub : ∀ b, Y b → Y2 b) (n02 : ∀ b, H2 b = none → H0 b = none) (ny : ∀ b, H2 b = none → ¬ Y b) {es : List En} {σ : L2.St} {H : Hp} {Dn : Ends} {p : Addr}
    (hs : σ[3]? = some (some (.ref p))) (hl : σ.length = 7) (M : Md Z Y H0 H2 H) (np : H2 p = none) (hp : H p = some (.lst (es.map fun e => V.ref e.a))) (G : Good Z Y2 H2 H es) (kn : ∀ e ∈ es, e.c ∈ knownL) (ok : ∀ e ∈ es, okEn e.key)
    (fin : ∀ (σ' : L2.St) (H' : Hp), σ'.length = 7 → Md Z Y H0 H2 H' → Dn.rt (.bl true) H') : tSeq (tFor (iList Z.K (tVar 3)) (gName 5) (tBody T X)) (tRet (tC (.bl true))) Dn σ H := by
  refine ⟨.ref p, hs, p, rfl, ⟨_, .inl (.inl hp)⟩, fun i m σ' H' => m = es.length - i ∧ i ≤ es.length ∧ σ'.length = 7 ∧ Md Z Y H0 H2 H' ∧ H' p = some (.lst (es.map fun e => V.ref e.a)) ∧ ∀ e ∈ es.drop i, EnF Z Y2 H2 H' e, ⟨es.length, by simp, Nat.zero_le _, hl, M, hp, fun e he => G.1 e (List.mem_of_mem_drop he)⟩, ?_⟩
  rintro i m σ1 H1 ⟨rfl, hi, l1, M1, p1, G1⟩
  by_cases hlt : i < es.length
  · refine .inr ⟨⟨_, .ref (es[i]).a, .inl (.inl p1), by rw [List.getElem?_map, List.getElem?_eq_getElem hlt]; rfl⟩, fun σ' H' => (es.length - (i + 1) = es.length - (i + 1) ∧ i + 1 ≤ es.length ∧ σ'.length = 7 ∧ Md Z Y H0 H2 H' ∧ H' p = some (.lst (es.map fun e => V.ref e.a)) ∧ ∀ e ∈ es.drop (i + 1), EnF Z Y2 H2 H' e), fun σ' H' z => ⟨es.length - (i + 1), by omega, z⟩, fun x H' ⟨eH, hx⟩ => ?_⟩
    subst eH
    have ex := hx _ (.inl (.inl p1))
    rw [List.getElem?_map, List.getElem?_eq_getElem hlt] at ex
    cases ex
    have hm : es[i] ∈ es := List.getElem_mem hlt
    have F : EnF Z Y2 H2 H' es[i] := G1 _ (by rw [List.drop_eq_getElem_cons hlt]; exact List.mem_cons_self)
    have nep : p ≠ (es[i]).a := fun z => by
      have q := F.h
      rw [← z, p1] at q
      cases q
    refine turn_ok T hK hX0 sub n02 ny (by rw [List.getElem?_set_self (by omega)]) (by rw [List.length_set]; exact l1) M1 F (kn _ hm) (ok _ hm) fun σ3 H3 l3 M3 k3 => ⟨rfl, hlt, l3, M3, k3 _ _ nep p1 (fun ps z => by cases z), fun e he => ?_⟩
    have Fe := G1 e (by rw [List.drop_eq_getElem_cons hlt]; exact List.mem_cons_of_mem _ he)
    have nea : e.a ≠ (es[i]).a := by
      have nd := G.2
      intro z
      obtain ⟨j, hj, ej⟩ := List.getElem_of_mem he
      rw [List.length_drop] at hj
      rw [List.getElem_drop] at ej
      have a1 : (es.map (·.a))[i + 1 + j]'(by rw [List.length_map]; omega) = (es.map (·.a))[i]'(by rw [List.length_map]; omega) := by
        rw [List.getElem_map, List.getElem_map, ej, z]
      exact (List.pairwise_iff_getElem.1 nd i (i + 1 + j) (by rw [List.length_map]; omega) (by rw [List.length_map]; omega) (by omega)) a1.symm
    refine ⟨Fe.m, k3 _ _ nea Fe.h exo_nt', Fe.n, Fe.x.imp id fun ⟨dd, vs, h1, h2, h3, h4, h5⟩ => ⟨dd, vs, h1, h2, h3, k3 _ _ (fun z => ?_) h4 (fun ps z => by cases z), h5⟩⟩
    have q := F.h
    rw [← z, h4] at q
    cases q
  · have e : i = es.length := by omega
    subst e
    exact .inl ⟨⟨_, .inl (.inl p1), by rw [List.length_map]; exact Nat.le_refl _⟩, fin σ1 H1 l1 M1⟩
theorem kn_of {val : D} {e : En} {es : List En} (hk : es.map En.key = keysA val ++ keysB val) (he : e ∈ es) : e.c ∈ knownL ∧ e.key ∈ keysA val ++ keysB val := by
  have h : e.key ∈ keysA val ++ keysB val := by rw [← hk]; exact List.mem_map_of_mem he
  refine ⟨?_, h⟩
  have q : e.key.1 ∈ (keysA val ++ keysB val).map (·.1) := List.mem_map_of_mem h
  have r : (keysA val ++ keysB val).map (fun k => k.1) = (["BadRig", "BadNumber", "BadLines", "UnknownPoint", "UnknownMember", "BadTackle", "BadPieces", "BadText", "BadLine", "NotHeld", "BadClaim", "NothingDone"] : List Str) := rfl
  rw [r] at q
  have all : ∀ c ∈ (["BadRig", "BadNumber", "BadLines", "UnknownPoint", "UnknownMember", "BadTackle", "BadPieces", "BadText", "BadLine", "NotHeld", "BadClaim", "NothingDone"] : List Str), c ∈ knownL := by decide +kernel
  exact all _ q
theorem rest_ok (T : Top P Z base) (hK : X.K = Z.K) (hX0 : X.H_0 = H0) {Dn : Ends} {σ : L2.St} {H : Hp} (h : tS Z (Gp Y H0 E) bX Dn σ H) : tRest T X (Gp Y H0 E) Dn σ H := by
  obtain ⟨s, Lv, R, po⟩ := h
  obtain ⟨val, h2, hlen, ⟨hen, s', hf5⟩, po⟩ := bX_ok po
  obtain ⟨w, hw, rw0⟩ := R.fz h2
  have hl : σ.length = 7 := by rw [← R.len]; exact hlen
  have M0 := Md.of R
  have sub : ∀ b, Y b → (Gp Y H0 E).X Lv b := fun b h => .inl h
  have n02 : ∀ b, H b = none → H0 b = none := fun b h => by
    cases q : H0 b with
    | none => rfl
    | some o => exact absurd h (R.st0 b (by rw [show (Gp Y H0 E).H0 b = H0 b from rfl, q]; simp))
  have ny : ∀ b, H b = none → ¬ Y b := fun b h hy => R.x0 b hy h
  have fin : ∀ (σ' : L2.St) (H' : Hp), σ'.length = 7 → Md Z Y H0 H H' → Dn.rt (.bl true) H' := fun σ' H' l M => by
    have R' : Rl Z (Gp Y H0 E) nos (fun _ => []) σ' H' := M.rl (by rw [l]; rfl) fun i x hx => by
      have : x = .no := List.eq_of_mem_replicate (List.mem_of_getElem? hx)
      subst this
      exact rfl
    have hX : (Gp Y H0 E).plus [] = Gp Y H0 E := by unfold Gm.plus; simp
    refine po (.bl true) σ' H' (fun _ => []) [] (by rw [hX]; exact R') ?_ List.nodup_nil (fun b hb => by cases hb) ⟨rfl, rep_bl⟩
    rw [hX]
    refine ⟨fun b o h n t => M.k2 b o h (fun hy => n (.inl hy)) t, M.t2, fun b hb => ?_, fun _ => M.tb⟩
    rcases hb with hb | ⟨i, hb⟩
    · exact .inl (.inl hb)
    · cases hb
  -- made
  delta tRest tSeq tAsg tLst
  refine news_ok hw rw0 (sp1 T) [] H _ Good.nil (Same.refl H) fun en H3 hk G S3 => ?_
  have len1 : en.length = 7 := by have q := congrArg List.length hk; rw [List.length_map, List.length_map] at q; exact q
  refine ⟨by rw [List.length_map, len1]; decide, fun p np => ?_⟩
  have S4 : Same H3 (upd H3 p (.lst (en.map fun e => V.ref e.a))) := same_new np
  have hp4 : (upd H3 p (.lst (en.map fun e => V.ref e.a))) p = some (.lst (en.map fun e => V.ref e.a)) := upd_same
  generalize upd H3 p (.lst (en.map fun e => V.ref e.a)) = H4 at S4 hp4
  have w1 : (σ.set 3 (some (.ref p)))[2]? = some (some w) := by rw [List.getElem?_set_ne (by decide)]; exact hw
  have q1 : (σ.set 3 (some (.ref p)))[3]? = some (some (.ref p)) := by rw [List.getElem?_set_self (by omega)]
  -- made + ..
  refine ⟨.ref p, q1, news_ok w1 rw0 (sp2 T) en H4 _ ((show Good Z _ H H3 en from by rw [← List.nil_append en]; exact G).nw (Nw.same S4)) (S3.trans S4) fun en2 H5 hk2 G5 S5 => ?_⟩
  have len2 : en2.length = 5 := by have q := congrArg List.length hk2; rw [List.length_map, List.length_map] at q; exact q
  refine ⟨by rw [List.length_map, len2]; decide, fun q nq => ?_⟩
  have S6 : Same H5 (upd H5 q (.lst (en2.map fun e => V.ref e.a))) := same_new nq
  have hp6 : (upd H5 q (.lst (en2.map fun e => V.ref e.a))) q = some (.lst (en2.map fun e => V.ref e.a)) := upd_same
  generalize upd H5 q (.lst (en2.map fun e => V.ref e.a)) = H6 at S6 hp6
  refine ⟨p, q, _, _, rfl, rfl, S6 _ _ (S5 _ _ hp4), hp6, by rw [List.length_map, List.length_map, len1, len2]; decide, fun r nr => ?_⟩
  rw [← List.map_append]
  obtain ⟨es, ees⟩ : ∃ es, es = en ++ en2 := ⟨_, rfl⟩
  rw [← ees] at G5 ⊢
  have hkA : es.map En.key = keysA val ++ keysB val := by rw [ees, List.map_append, hk, hk2]; rfl
  have S7 : Same H6 (upd H6 r (.lst (es.map fun e => V.ref e.a))) := same_new nr
  have hp7 : (upd H6 r (.lst (es.map fun e => V.ref e.a))) r = some (.lst (es.map fun e => V.ref e.a)) := upd_same
  generalize upd H6 r (.lst (es.map fun e => V.ref e.a)) = H7 at S7 hp7
  have SA : Same H H6 := S3.trans (S4.trans (S5.trans S6))
  have nr0 : H r = none := Same.free SA nr
  have SB : Same H H7 := SA.trans S7
  have G7 : Good Z ((Gp Y H0 E).X Lv) H H7 es := G5.nw (Nw.same (S6.trans S7))
  delta gName
  dsimp only
  rw [List.set_set]
  have w2 : (σ.set 3 (some (.ref r)))[2]? = some (some w) := by rw [List.getElem?_set_ne (by decide)]; exact hw
  have q2 : (σ.set 3 (some (.ref r)))[3]? = some (some (.ref r)) := by rw [List.getElem?_set_self (by omega)]
  -- fields
  refine flds_ok (val := val) q2 hp7 G7.1 fl9 _ (fun s hs => ?_) fun vs rvs => ?_
  · rw [hkA]
    simp only [fl9, List.mem_cons, List.not_mem_nil, or_false] at hs
    rcases hs with rfl | rfl | rfl | rfl | rfl | rfl | rfl | rfl | rfl <;> exact ⟨_, rfl, rfl⟩
  refine ⟨by rw [← RepL.length rvs, List.length_map]; decide, fun pf nf => ?_⟩
  have S8 : Same H7 (upd H7 pf (.lst vs)) := same_new nf
  have hp8 : (upd H7 pf (.lst vs)) pf = some (.lst vs) := upd_same
  generalize upd H7 pf (.lst vs) = H8 at S8 hp8
  have nf0 : H pf = none := Same.free SB nf
  have SC : Same H H8 := SB.trans S8
  have G8 := G7.nw (Nw.same (H2 := H) S8)
  have M8 : Md Z Y H0 H H8 := M0.same SC
  have FwC : Fw Z ((Gp Y H0 E).X Lv) H Y H8 := (Fw.same SC).less sub
  obtain ⟨σ5, eσ⟩ : ∃ σ5, σ5 = (σ.set 3 (some (.ref r))).set 4 (some (.ref pf)) := ⟨_, rfl⟩
  have w3 : σ5[2]? = some (some w) := by rw [eσ, List.getElem?_set_ne (by decide)]; exact w2
  have q3 : σ5[3]? = some (some (.ref r)) := by rw [eσ, List.getElem?_set_ne (by decide)]; exact q2
  have q4 : σ5[4]? = some (some (.ref pf)) := by rw [eσ, List.getElem?_set_self (by rw [List.length_set]; omega)]
  have l5 : σ5.length = 7 := by rw [eσ, List.length_set, List.length_set]; exact hl
  try dsimp only
  rw [← eσ]
  -- the test
  have R5 : Rl Z (Gp Y H0 E) (s5L val) (fun _ => []) σ5 H8 := M8.rl (by rw [l5]; rfl) fun i x hx => by
    match i, hx with
    | 0, hx => cases hx; exact rfl
    | 1, hx => cases hx; exact rfl
    | 2, hx => cases hx; exact ⟨rfl, w, w3, Rep.mono FwC _ _ rw0⟩
    | 3, hx => cases hx; exact rfl
    | 4, hx =>
      cases hx
      refine ⟨rfl, .ref pf, q4, ?_⟩
      simp only [Rep]
      exact ⟨pf, vs, rfl, ny _ nf0, hp8, RepL.mono FwC _ _ rvs⟩
    | 5, hx => cases hx; exact rfl
    | 6, hx => cases hx; exact rfl
    | n + 7, hx => simp [s5L] at hx
  refine ⟨s5L val, fun _ => [], R5, ?_⟩
  rw [hf5]
  intro v H9 Lv9 R9 F9 ev
  subst ev
  rw [if_neg Bool.false_ne_true]
  have M9 : Md Z Y H0 H H9 := M8.fw R9 (fun b o h n t => F9.keep b o h (fun hx => hx.elim n fun ⟨i, hi⟩ => by cases hi) t) F9.ktbl
  have N9 : Nw H H8 H9 := fun b o n h t => F9.keep b o h (fun hx => hx.elim (ny b n) fun ⟨i, hi⟩ => by cases hi) t
  have G9 := G8.nw N9
  have hp9 : H9 r = some (.lst (es.map fun e => V.ref e.a)) := N9 _ _ nr0 (S8 _ _ hp7) fun ps z => by cases z
  obtain ⟨e0, he0, hm0, hk0⟩ : ∃ e, es[0]? = some e ∧ e ∈ es ∧ e.key = (("BadRig" : Str), (["place", "part"] : List Str), [val, D.str "points"]) := by
    have q : (es.map En.key)[0]? = some (("BadRig" : Str), (["place", "part"] : List Str), [val, D.str "points"]) := by rw [hkA]; rfl
    rw [List.getElem?_map] at q
    cases e : es[0]? with
    | none => rw [e] at q; cases q
    | some e0 => rw [e] at q; exact ⟨e0, rfl, List.mem_of_getElem? e, Option.some.inj q⟩
  have k1 : e0.c = "BadRig" := congrArg (·.1) hk0
  have k2 : e0.ns = (["place", "part"] : List Str) := congrArg (·.2.1) hk0
  have k3 : e0.ds = [val, .str "points"] := congrArg (·.2.2) hk0
  have len12 : es.length = 12 := by rw [ees, List.length_append, len1, len2]
  refine ⟨_, _, es, e0, r, .str "points", q3, hp9, ?_, G9.1 e0 hm0, k1, k2, by rw [k3]; rfl, fun u ru => ?_⟩
  · unfold atI
    rw [len12]
    exact he0
  obtain rfl : u = V.str "points" := by simpa only [Rep] using ru
  refine ⟨fun _ => False, [.str "points", .str "points"], .bl false, fun _ z => z.elim, ?_, by kernel_rfl, fun v' H10 s10 rv' => ?_⟩
  · exact ⟨_, _, rfl, .inl (by simp only [Rep]), _, _, rfl, .inl (by simp only [Rep]), rfl⟩
  obtain rfl : v' = V.bl false := by simpa only [Rep] using rv'
  refine ⟨false, rfl, ?_⟩
  dsimp only
  rw [if_neg Bool.false_ne_true]
  exact loop_ok T hK hX0 sub n02 ny q3 l5 (M9.same s10) nr0 (s10 _ _ hp9) (G9.nw (Nw.same s10)) (fun e he => (kn_of hkA he).1) (fun e he => hen _ (kn_of hkA he).2) fin
end
end PD

set_option linter.all false
set_option maxRecDepth 100000
set_option maxHeartbeats 2000000
namespace PD
open PySem PySem.Spec PyProof.Rows L2 LamX NdefX
noncomputable def b_law : S → SR := (sSeq (sOwn 1 (rLst (aCons (eV 0) (aCons (eC (.int 0)) (aCons (eC (.int 6001)) (aCons (eC (.int 0)) aNil)))))) (sSeq (sAsg (gN 2) (eFz (rCallB 1 1 m__law_pick (aCons (eLst (aCons (eC .non) (aCons (eC (.bl true)) (aCons (eC (.int 0)) (aCons (eC (.int 7)) (aCons (eBin gPow (eC (.int 10)) (eC (.int 40))) (aCons (eC (.str "ann")) (aCons (eTup (aCons (eC (.int 1)) (aCons (eC (.int 2)) aNil))) (aCons (eLst (aCons (eC (.int 1)) aNil)) (aCons (eUn gNeg (eC (.int 3))) (aCons (eC (.str "")) aNil))))))))))) aNil)))) bX))
noncomputable def m_law : List D → FR := runP 7 b_law
section
variable {P : Program} {w : World} {Z : Zt} {base : Heap}
theorem ok_law (T : Top P Z base) : FnG P w Z.K Z.mg base (L2.CX P w) 4 T.a_law T.d_law ["script"] (spP Z 1 m_law) := okPg (N := N_law) T.F_law sc_law fun cdv A outer s Y H E hr hgA => by
  have px : PX (cxOf (L2.CX P w) P w Z.K Z.mg base N_law "law" (defScope s_law) T.a_law cdv A outer s H E) (Gp Y H E) := px_of (takes_of rfl rfl rfl rfl)
  have hu64 := hr.units
  have hu65 := room65 hr
  have hu80 := room80 hr
  have hu1 := room1 hr
  exact (dss_cons (ds_own 1 (dr_lst (da_cons (de_v 0) (da_cons de_int (da_cons de_int (da_cons de_int da_nil))))) sc_law.nd) (dss_cons (ds_asg (de_callO 1 (ok__law_pick T) (hr.mono (by decide)) (by rfl) T.g__law_pick T.F__law_pick.kp T.b__law_pick px econst_p (da_cons (de_lst (da_cons de_non (da_cons de_bl (da_cons de_int (da_cons de_int (da_cons (de_bin od_pow de_int de_int) (da_cons de_str (da_cons (de_tup (da_cons de_int (da_cons de_int da_nil))) (da_cons (de_lst (da_cons de_int da_nil)) (da_cons (de_un od_neg de_int) (da_cons de_str da_nil))))))))))) da_nil)) (dg_n (i := 2) sc_law.nd))
    (pss_imp (pss_rest T cdv A outer s Y H E hr hgA) fun _ _ _ h => rest_ok T rfl rfl h)))
end
end PD

set_option linter.all false
set_option maxRecDepth 100000
set_option maxHeartbeats 1000000
namespace PD
open PySem PySem.Spec PyProof.Rows L2

theorem dok_i (i : Int) : dok (.int i) = some (.int i) := by simp [dok, D.toP, SeqAt.shaped, PyData.canLay0, PyData.depth]
theorem atI_nat {α : Type} {xs : List α} {i : Nat} (h : i < xs.length) : atI xs (i : Int) = some xs[i] := by
  simp [atI, ixN, h]
end PD

set_option linter.all false
set_option maxRecDepth 100000
set_option maxHeartbeats 1000000
namespace PD
open PySem PySem.Spec PyProof.Rows L2
section
variable {s : S} {f g : S → SR} {fa fb fc fe : S → R W} {fr : S → R Rv} {fs : S → R (List W)} {fi : S → R (List D)} {t : D → S → R Unit} {ts : List D → S → R Unit} {c c2 : S → R Bool} {i j n : Nat} {d : D} {ds : List D} {gg : List D → Option D}
@[simp] theorem x_seq : sSeq f g s = match f s with | .nx s1 => g s1 | r => r := rfl
@[simp] theorem x_own : sOwn i fr s = sBind (fr s) fun r s1 => if i < s1.length then .nx (s1.set i r.sl) else .st := rfl
@[simp] theorem x_for : sFor t fi f s = sBind (fi s) fun ds s1 => forD t f ds s1 := rfl
@[simp] theorem x_if : sIf c f g s = sBind (c s) fun b s1 => if b = true then f s1 else g s1 := rfl
@[simp] theorem x_ret : sRet fa s = sBind (fa s) fun w s1 => match fzW w with | some d => .rt (.d d) s1 | none => .st := rfl
@[simp] theorem x_asg : sAsg t fa s = sBind (fa s) fun w s1 => match fzW w with | some d => tgo (t d s1) fun s2 => .nx s2 | none => .st := rfl
@[simp] theorem x_drop : sDrop fa s = sBind (fa s) fun _ s1 => .nx s1 := rfl
@[simp] theorem x_nil : sNil s = .nx s := rfl
@[simp] theorem x_retN : sRetN s = .rt (.d .non) s := rfl
@[simp] theorem x_app : sApp i fa s = if isOwnL s i then sBind (fa s) fun w s1 => match fzW w, s1[i]? with
  | some d, some (.ow (.lst ds)) => if ds.length < lim then .nx (s1.set i (.ow (.lst (ds ++ [d])))) else .st
  | _, _ => .st else .st := rfl
@[simp] theorem x_ext : sExt i fa s = if isOwnL s i then sBind (fa s) fun w s1 => match fzW w, s1[i]? with
  | some (.lst es), some (.ow (.lst ds)) => if ds.length + es.length ≤ lim then .nx (s1.set i (.ow (.lst (ds ++ es)))) else .st
  | _, _ => .st else .st := rfl
@[simp] theorem x_eV : eV i s = match s[i]? with | some (.fz d) => .ok (.d d) s | some (.ow _) => .ok (.p i) s | _ => .st := rfl
@[simp] theorem x_eC : eC d s = .ok (.d d) s := rfl
@[simp] theorem x_eUn : eUn gg fa s = (fa s).bind fun w s1 => ofO s1 ((rdW s1 w).bind fun d => (gg [d]).map W.d) := rfl
@[simp] theorem x_eBin : eBin gg fa fb s = (fa s).bind fun w s1 => (fb s1).bind fun u s2 => ofO s2 ((rdL s2 [w, u]).bind fun ds => (gg ds).map W.d) := rfl
@[simp] theorem x_eApp : eApp gg fs s = (fs s).bind fun ws s1 => ofO s1 ((rdL s1 ws).bind fun ds => (gg ds).map W.d) := rfl
@[simp] theorem x_aNil : aNil s = .ok [] s := rfl
@[simp] theorem x_aCons : aCons fa fs s = (fa s).bind fun w s1 => (fs s1).bind fun ws s2 => .ok (w :: ws) s2 := rfl
@[simp] theorem x_eIf : eIf c fa fb s = (c s).bind fun b s1 => if b = true then fa s1 else fb s1 := rfl
@[simp] theorem x_cVal : cVal fa s = (fa s).bind fun w s1 => ofO s1 ((rdW s1 w).bind truD) := rfl
@[simp] theorem x_cAnd : cAnd c c2 s = (c s).bind fun b s1 => if b = true then c2 s1 else .ok false s1 := rfl
@[simp] theorem x_cOr : cOr c c2 s = (c s).bind fun b s1 => if b = true then .ok true s1 else c2 s1 := rfl
@[simp] theorem x_cNot : cNot c s = (c s).bind fun b s1 => .ok (!b) s1 := rfl
@[simp] theorem x_eAnd : eAnd fa fb s = (fa s).bind fun w s1 => match w with | .d (.bl true) => fb s1 | .d (.bl false) => .ok (.d (.bl false)) s1 | _ => .st := rfl
@[simp] theorem x_eOr : eOr fa fb s = (fa s).bind fun w s1 => match w with | .d (.bl false) => fb s1 | .d (.bl true) => .ok (.d (.bl true)) s1 | _ => .st := rfl
@[simp] theorem x_eTup : eTup fs s = (fs s).bind fun ws s1 => ofO s1 ((fzL ws).bind fun ds => if ds.length ≤ 1000000 then some (W.d (.tup ds)) else none) := rfl
@[simp] theorem x_eLst : eLst fs s = (fs s).bind fun ws s1 => ofO s1 ((fzL ws).bind fun ds => if ds.length ≤ 1000000 then some (W.d (.lst ds)) else none) := rfl
@[simp] theorem x_eMv : eMv i s = match s[i]? with | some (.ow o) => .ok (.d o.toD) (s.set i (.fz o.toD)) | some (.fz d) => .ok (.d d) s | _ => .st := rfl
@[simp] theorem x_eFz : eFz fr s = (fr s).bind fun r s1 => .ok (.d r.toD) s1 := rfl
@[simp] theorem x_rLst : rLst fs s = (fs s).bind fun ws s1 => ofO s1 ((fzL ws).bind fun ds => if ds.length ≤ 1000000 then some (Rv.o (.lst ds)) else none) := rfl
@[simp] theorem x_rDat : rDat fa s = (fa s).bind fun w s1 => ofO s1 ((fzW w).map .d) := rfl
@[simp] theorem x_rNil : rNil s = .ok [] s := rfl
@[simp] theorem x_rCons {h : S → R (List Rv)} : rCons fr h s = (fr s).bind fun r s1 => (h s1).bind fun rs s2 => .ok (r :: rs) s2 := rfl
@[simp] theorem x_iSeq : iSeq fa s = (fa s).bind fun w s1 => ofO s1 (seqD w) := rfl
@[simp] theorem x_iOf {h : List W → Option (List D)} : iOf h fs s = (fs s).bind fun ws s1 => ofO s1 (h ws) := rfl
@[simp] theorem x_gN : gN i d s = if i < s.length then .ok () (s.set i (.fz d)) else .st := rfl
@[simp] theorem x_gsNil : gsNil [] s = .ok () s := rfl
@[simp] theorem x_gsCons : gsCons t ts (d :: ds) s = (t d s).bind fun _ s1 => ts ds s1 := rfl
@[simp] theorem x_gT : gT n ts (.tup ds) s = if ds.length = n then ts ds s else .st := rfl
@[simp] theorem x_rCall {m : List D → FR} : rCall n m fs s = (fs s).bind fun ws s1 => match fzL ws with
  | some ds => if ds.length = n then (match m ds with
    | .ok r => .ok r s1
    | .er c ns es => .er c ns es s1
    | .st => .st) else .st
  | none => .st := rfl
@[simp] theorem x_eChain {g' : List D → Option D} : eChain gg g' fa fb fc s = (fa s).bind fun w s1 => (fb s1).bind fun u s2 => match (rdL s2 [w, u]).bind gg with
  | some (.bl true) => (fc s2).bind fun z s3 => ofO s3 ((rdL s3 [u, z]).bind fun ds => (g' ds).map W.d)
  | some (.bl false) => .ok (.d (.bl false)) s2
  | _ => .st := rfl
@[simp] theorem x_par2 {h : S → R (List Rv)} : sPar2 i j h s = sBind (h s) fun rs s1 => match rs with
  | [r1, r2] => if i < s1.length ∧ j < s1.length then .nx ((s1.set i r1.sl).set j r2.sl) else .st
  | _ => .st := rfl
@[simp] theorem x_yes : tYesD s = .ok true s := rfl
@[simp] theorem x_rdWd : rdW s (.d d) = some d := rfl
@[simp] theorem x_rdWp : rdW s (.p i) = match s[i]? with | some (.ow o) => o.seen | some (.fz d) => some d | _ => none := rfl
@[simp] theorem x_sn_l : (O.lst ds).seen = some (.lst ds) := rfl
@[simp] theorem x_sn_d {ks : List Key} : (O.dic ks ds).seen = some (.dic ks ds) := rfl
@[simp] theorem x_sn_t {ks : List (List Key)} : (O.dit ks ds).seen = some (.dit ks ds) := rfl
@[simp] theorem x_sn_i {c : Str} {ns : List Str} {fs : List Fd} : (O.ins c ns fs).seen = some (.ins c ns (fs.map Fd.toD)) := rfl
@[simp] theorem x_fzWp : fzW (.p i) = none := rfl
@[simp] theorem x_rdL0 : rdL s [] = some [] := rfl
@[simp] theorem x_rdL {w : W} {ws : List W} : rdL s (w :: ws) = (rdW s w).bind fun d => (rdL s ws).bind fun ds => some (d :: ds) := rfl
@[simp] theorem x_fzW : fzW (.d d) = some d := rfl
@[simp] theorem x_fzL0 : fzL [] = some [] := rfl
@[simp] theorem x_fzL {w : W} {ws : List W} : fzL (w :: ws) = (fzW w).bind fun d => (fzL ws).bind fun ds => some (d :: ds) := rfl
@[simp] theorem x_slo {o : O} : (Rv.o o).sl = .ow o := rfl
@[simp] theorem x_sld : (Rv.d d).sl = .fz d := rfl
@[simp] theorem x_toDo {o : O} : (Rv.o o).toD = o.toD := rfl
@[simp] theorem x_toDd : (Rv.d d).toD = d := rfl
@[simp] theorem x_olst : (O.lst ds).toD = .lst ds := rfl
@[simp] theorem x_tru {b : Bool} : truD (.bl b) = some b := rfl
@[simp] theorem g_add {a b : Int} : gAdd [.int a, .int b] = some (.int (a + b)) := rfl
@[simp] theorem g_sub {a b : Int} : gSub [.int a, .int b] = some (.int (a - b)) := rfl
@[simp] theorem g_neg {a : Int} : gNeg [.int a] = some (.int (-a)) := rfl
@[simp] theorem g_le {a b : Int} : gLe [.int a, .int b] = some (.bl (decide (a ≤ b))) := rfl
@[simp] theorem g_gt {a b : Int} : gGt [.int a, .int b] = some (.bl (decide (a > b))) := rfl
@[simp] theorem g_ge {a b : Int} : gGe [.int a, .int b] = some (.bl (decide (a ≥ b))) := rfl
@[simp] theorem g_lenL : gLen [.lst ds] = some (.int ds.length) := rfl
@[simp] theorem g_lenT : gLen [.tup ds] = some (.int ds.length) := rfl
@[simp] theorem g_lenS {xs : List Int} : gLen [.scr xs] = some (.int xs.length) := rfl
@[simp] theorem g_ixL {a : Int} : gIx2 [.lst ds, .int a] = atI ds a := rfl
@[simp] theorem g_ixT {a : Int} : gIx2 [.tup ds, .int a] = atI ds a := rfl
@[simp] theorem g_ixS {xs : List Int} {a : Int} : gIx2 [.scr xs, .int a] = (atI xs a).map .int := rfl
@[simp] theorem g_int {a : Int} : gInt [.int a] = some (.int a) := rfl
@[simp] theorem g_list {ds : List D} : gList [.lst ds] = some (.lst ds) := rfl
@[simp] theorem g_listT {ds : List D} : gList [.tup ds] = some (.lst ds) := rfl
@[simp] theorem g_tup {ds : List D} : gTuple [.lst ds] = some (.tup ds) := rfl
@[simp] theorem g_tupT {ds : List D} : gTuple [.tup ds] = some (.tup ds) := rfl
@[simp] theorem g_max {a b : Int} : gMax [.int a, .int b] = some (.int (if b > a then b else a)) := rfl
@[simp] theorem g_not {b : Bool} : gNot [.bl b] = some (.bl (!b)) := rfl
@[simp] theorem g_seqL : seqD (.d (.lst ds)) = some ds := rfl
@[simp] theorem g_seqT : seqD (.d (.tup ds)) = some ds := rfl
theorem g_mod {a b : Int} (h : 0 < b) : gMod [.int a, .int b] = some (.int (a % b)) := by simp [gMod, h]
theorem small_of {b : Int} (h0 : 0 ≤ b) (h : b < 2 ^ 4000) : small b = true := by
  unfold small
  refine decide_eq_true ?_
  by_cases hz : b.natAbs = 0
  · rw [hz]; decide
  · exact (Nat.log2_lt hz).mpr (by omega)
theorem g_div {a b : Int} (h : 0 < b) (hb : b < 2 ^ 4000) : gDiv [.int a, .int b] = some (.int (a / b)) := by
  unfold gDiv
  simp only
  rw [if_pos ⟨h, small_of (by omega) hb⟩]
theorem g_mul {a b : Int} (ha : 0 ≤ a) (ha2 : a < 2 ^ 4000) (hb : 0 ≤ b) (hb2 : b < 2 ^ 4000) : gMul [.int a, .int b] = some (.int (a * b)) := by
  unfold gMul
  simp only
  rw [small_of ha ha2, small_of hb hb2]
  rfl
end
end PD

set_option linter.all false
set_option maxRecDepth 100000
set_option maxHeartbeats 1000000
namespace PD
open PySem PySem.Spec PyProof.Rows L2
@[simp] theorem g_enumT {xs : List D} : gEnum [.d (.tup xs)] = some (enumD xs) := rfl
@[simp] theorem g_enumL {xs : List D} : gEnum [.d (.lst xs)] = some (enumD xs) := rfl
@[simp] theorem g_zipL {xs ys : List D} : gZip [.d (.lst xs), .d (.lst ys)] = some (pairsD xs ys) := rfl
@[simp] theorem g_zipT {xs ys : List D} : gZip [.d (.tup xs), .d (.tup ys)] = some (pairsD xs ys) := rfl
section
variable {vs : List Nat} {t : D → S → R Unit} {c : S → R Bool} {f : S → R W} {s0 s s1 : S} {fi : S → R (List D)} {α : Type}
end
@[simp] theorem g_lt {a b : Int} : gLt [.int a, .int b] = some (.bl (decide (a < b))) := by
  have h := congrFun (congrFun (PySem.W.dataLe_int (fun i : Int => i)) b) a
  have h2 : PySem.W.dataLe false (fun b : Int => PyData.int b) b a = !PySem.W.dataLt (.int a) (.int b) := rfl
  rw [h2] at h
  have h3 : PySem.W.alike (.int a) (.int b) = true := by rw [PySem.W.alike]
  have h4 : PySem.W.dataLt (.int a) (.int b) = decide (a < b) := by
    have : (!(!PySem.W.dataLt (.int a) (.int b))) = !decide (b ≤ a) := by rw [h]
    rw [Bool.not_not] at this
    rw [this]
    by_cases q : a < b
    · simp [q, Int.not_le.2 q]
    · simp [q, Int.not_lt.1 q]
  simp only [gLt, ord2, dok_i, Option.bind_some, h3, isNonP, Bool.not_false, Bool.and_self, if_true, Option.map_some, h4]
@[simp] theorem g_notNi {a : Int} : gNotN [.int a, .non] = some (.bl true) := rfl
@[simp] theorem g_notNn : gNotN [.non, .non] = some (.bl false) := rfl
@[simp] theorem g_isNi {a : Int} : gIsN [.int a, .non] = some (.bl false) := rfl
@[simp] theorem g_isNn : gIsN [.non, .non] = some (.bl true) := rfl
end PD

set_option linter.all false
set_option maxRecDepth 100000
set_option maxHeartbeats 1000000
namespace PD
open PySem PySem.Spec PyProof.Rows L2
section
variable {κ α : Type} [DecidableEq κ]
end
end PD

set_option linter.all false
namespace PD.SX
def sumN : Nat → (Nat → Int) → Int
  | 0, _ => 0
  | n + 1, f => sumN n f + f n
theorem sumN_congr {n : Nat} {f g : Nat → Int} (h : ∀ a, a < n → f a = g a) : sumN n f = sumN n g := by
  induction n with
  | zero => rfl
  | succ n ih => simp only [sumN]; rw [ih fun a l => h a (by omega), h n (by omega)]
theorem sumN_zero {n : Nat} {f : Nat → Int} (h : ∀ a, a < n → f a = 0) : sumN n f = 0 := by
  induction n with
  | zero => rfl
  | succ n ih => simp only [sumN]; rw [ih fun a l => h a (by omega), h n (by omega)]; rfl
theorem sumN_add (n : Nat) (f g : Nat → Int) : sumN n (fun a => f a + g a) = sumN n f + sumN n g := by
  induction n with
  | zero => rfl
  | succ n ih => simp only [sumN, ih]; omega
theorem sumN_mul (n : Nat) (k : Int) (f : Nat → Int) : sumN n (fun a => k * f a) = k * sumN n f := by
  induction n with
  | zero => simp [sumN]
  | succ n ih => simp only [sumN, ih]; grind
theorem sumN_neg (n : Nat) (f : Nat → Int) : sumN n (fun a => - f a) = - sumN n f := by
  induction n with
  | zero => rfl
  | succ n ih => simp only [sumN, ih]; omega
theorem sumN_swap (n m : Nat) (f : Nat → Nat → Int) : sumN n (fun a => sumN m fun b => f a b) = sumN m (fun b => sumN n fun a => f a b) := by
  induction n with
  | zero => rw [sumN_zero (n := m)]; rfl; intro a l; rfl
  | succ n ih => simp only [sumN, ih, sumN_add]
theorem sumN_one {n : Nat} {f : Nat → Int} {i : Nat} (hi : i < n) (h : ∀ a, a < n → a ≠ i → f a = 0) : sumN n f = f i := by
  induction n with
  | zero => omega
  | succ n ih =>
    simp only [sumN]
    by_cases e : i = n
    · subst e; rw [sumN_zero fun a l => h a (by omega) (by omega)]; omega
    · rw [ih (by omega) fun a l q => h a (by omega) q, h n (by omega) (by omega)]; omega
theorem sumN_two {n : Nat} {f : Nat → Int} {i k : Nat} (hi : i < n) (hk : k < n) (ne : i ≠ k) (h : ∀ a, a < n → a ≠ i → a ≠ k → f a = 0) : sumN n f = f i + f k := by
  induction n with
  | zero => omega
  | succ n ih =>
    simp only [sumN]
    by_cases e : i = n
    · subst e; rw [sumN_one (i := k) (by omega) fun a l q => h a (by omega) (by omega) q]; omega
    · by_cases e2 : k = n
      · subst e2; rw [sumN_one (i := i) (by omega) fun a l q => h a (by omega) q (by omega)]
      · rw [ih (by omega) (by omega) fun a l q q2 => h a (by omega) q q2, h n (by omega) (by omega) (by omega)]; omega
theorem sumN_neg_ex {n : Nat} {f : Nat → Int} (h : sumN n f < 0) : ∃ a, a < n ∧ f a < 0 := by
  induction n with
  | zero => simp [sumN] at h
  | succ n ih =>
    simp only [sumN] at h
    by_cases q : f n < 0
    · exact ⟨n, by omega, q⟩
    · obtain ⟨a, l, e⟩ := ih (by omega); exact ⟨a, by omega, e⟩
def sg (b a : Nat) : Int := if b < a then 1 else if a < b then -1 else 0
theorem sg_anti (a b : Nat) : sg a b = - sg b a := by unfold sg; split <;> split <;> (try split) <;> (try split) <;> omega
def sgs (a : Nat) : List Nat → Int
  | [] => 1
  | b :: l => sg b a * sgs a l
abbrev Vec := Nat → Int
def shf (B : Nat → Vec) : Nat → Vec := fun i => B (i + 1)
def upd {α : Type} (B : Nat → α) (r : Nat) (x : α) : Nat → α := fun i => if i = r then x else B i
def dE (n : Nat) : Nat → (Nat → Vec) → List Nat → Int
  | 0, _, _ => 1
  | k + 1, B, u => sumN n fun a => B 0 a * sgs a u * dE n k (shf B) (a :: u)
@[simp] theorem upd_same {α : Type} (B : Nat → α) (r : Nat) (x : α) : upd B r x r = x := by simp [upd]
theorem upd_ne {α : Type} (B : Nat → α) {r i : Nat} (x : α) (h : i ≠ r) : upd B r x i = B i := by simp [upd, h]
theorem shf_upd_succ (B : Nat → Vec) (r : Nat) (x : Vec) : shf (upd B (r + 1) x) = upd (shf B) r x := by
  funext i; simp [shf, upd]
theorem shf_upd_zero (B : Nat → Vec) (x : Vec) : shf (upd B 0 x) = shf B := by
  funext i; simp [shf, upd]
theorem upd_upd {α : Type} (B : Nat → α) (r : Nat) (x y : α) : upd (upd B r x) r y = upd B r y := by
  funext i; simp only [upd]; split <;> rfl
theorem upd_comm {α : Type} (B : Nat → α) {r k : Nat} (x y : α) (h : r ≠ k) : upd (upd B r x) k y = upd (upd B k y) r x := by
  funext i; simp only [upd]; split <;> split <;> first | rfl | omega
theorem upd_id {α : Type} (B : Nat → α) (r : Nat) : upd B r (B r) = B := by
  funext i; simp only [upd]; split <;> simp_all
theorem dE_congr {n : Nat} : ∀ {k : Nat} {B C : Nat → Vec} {u : List Nat}, (∀ i, i < k → ∀ a, a < n → B i a = C i a) → dE n k B u = dE n k C u
  | 0, _, _, _, _ => rfl
  | k + 1, B, C, u, h => by
    simp only [dE]
    refine sumN_congr fun a l => ?_
    rw [h 0 (by omega) a l, dE_congr (B := shf B) (C := shf C) fun i q b q2 => h (i + 1) (by omega) b q2]
theorem dE_lin {n : Nat} : ∀ {k r : Nat} (B : Nat → Vec) (x y : Vec) (s t : Int) (u : List Nat), r < k → dE n k (upd B r fun a => s * x a + t * y a) u = s * dE n k (upd B r x) u + t * dE n k (upd B r y) u
  | 0, r, _, _, _, _, _, _, h => by omega
  | k + 1, 0, B, x, y, s, t, u, _ => by
    simp only [dE, shf_upd_zero, upd_same]
    rw [← sumN_mul, ← sumN_mul, ← sumN_add]
    exact sumN_congr fun a _ => by grind
  | k + 1, r + 1, B, x, y, s, t, u, h => by
    simp only [dE, shf_upd_succ]
    rw [← sumN_mul, ← sumN_mul, ← sumN_add]
    refine sumN_congr fun a _ => ?_
    rw [dE_lin (shf B) x y s t (a :: u) (by omega : r < k), upd_ne B _ (by omega : (0 : Nat) ≠ r + 1), upd_ne B _ (by omega : (0 : Nat) ≠ r + 1), upd_ne B _ (by omega : (0 : Nat) ≠ r + 1)]
    grind
theorem dE_zeroc {n k r : Nat} (B : Nat → Vec) (u : List Nat) (h : r < k) : dE n k (upd B r fun _ => 0) u = 0 := by
  have e := dE_lin (n := n) B (fun _ => 0) (fun _ => 0) 0 0 u h
  simp only [Int.zero_mul, Int.add_zero] at e
  exact e
theorem dE_sum {n k r : Nat} (B : Nat → Vec) (u : List Nat) (h : r < k) (N : Nat) (t : Nat → Int) (b : Nat → Vec) :
    dE n k (upd B r fun a => sumN N fun i => t i * b i a) u = sumN N fun i => t i * dE n k (upd B r (b i)) u := by
  induction N with
  | zero => simp only [sumN]; exact dE_zeroc B u h
  | succ N ih =>
    simp only [sumN]
    have e := dE_lin (n := n) B (fun a => sumN N fun i => t i * b i a) (b N) 1 (t N) u h
    simp only [Int.one_mul] at e
    rw [e, ih]
theorem sgs_perm {c : Nat} {u v : List Nat} (h : u.Perm v) : sgs c u = sgs c v := by
  induction h with
  | nil => rfl
  | cons x _ ih => simp only [sgs, ih]
  | swap x y l => simp only [sgs]; grind
  | trans _ _ h1 h2 => exact h1.trans h2
theorem dE_perm {n : Nat} : ∀ {k : Nat} {B : Nat → Vec} {u v : List Nat}, u.Perm v → dE n k B u = dE n k B v
  | 0, _, _, _, _ => rfl
  | k + 1, B, u, v, h => by
    simp only [dE]
    exact sumN_congr fun a _ => by rw [sgs_perm h, dE_perm (h.cons a)]
def sw0 (B : Nat → Vec) : Nat → Vec := fun i => if i = 0 then B 1 else if i = 1 then B 0 else B i
theorem shf2_sw (B : Nat → Vec) : shf (shf (sw0 B)) = shf (shf B) := by funext i; simp [shf, sw0]
theorem dE_swap (n k : Nat) (B : Nat → Vec) (u : List Nat) : dE n (k + 2) (sw0 B) u = - dE n (k + 2) B u := by
  simp only [dE, shf2_sw, ← sumN_mul, ← sumN_neg]
  have e0 : sw0 B 0 = B 1 := rfl
  have e1 : shf (sw0 B) 0 = B 0 := rfl
  have e2 : shf B 0 = B 1 := rfl
  simp only [e0, e1, e2]
  rw [sumN_swap]
  refine sumN_congr fun a _ => sumN_congr fun b _ => ?_
  rw [dE_perm (List.Perm.swap b a u)]
  simp only [sgs]
  rw [sg_anti b a]
  grind
theorem dE_head {n : Nat} : ∀ (j k : Nat) (B : Nat → Vec) (u : List Nat), j + 1 < k → B 0 = B (j + 1) → dE n k B u = 0
  | 0, k, B, u, h, e => by
    obtain ⟨k, rfl⟩ : ∃ q, k = q + 2 := ⟨k - 2, by omega⟩
    have s := dE_swap n k B u
    have q : sw0 B = B := by
      funext i; simp only [sw0]; split
      · subst_vars; exact e.symm
      · split
        · subst_vars; exact e
        · rfl
    rw [q] at s; omega
  | j + 1, k, B, u, h, e => by
    obtain ⟨k, rfl⟩ : ∃ q, k = q + 2 := ⟨k - 2, by omega⟩
    have s := dE_swap n k B u
    have z : dE n (k + 2) (sw0 B) u = 0 := by
      simp only [dE]
      refine sumN_zero fun a _ => ?_
      have q := dE_head (n := n) j (k + 1) (shf (sw0 B)) (a :: u) (by omega) (by simp [shf, sw0, e])
      simp only [dE] at q
      rw [q]; grind
    omega
theorem dE_alt {n : Nat} : ∀ {i j k : Nat} {B : Nat → Vec} {u : List Nat}, i < j → j < k → B i = B j → dE n k B u = 0
  | 0, j, k, B, u, h, l, e => by
    obtain ⟨j, rfl⟩ : ∃ q, j = q + 1 := ⟨j - 1, by omega⟩
    exact dE_head j k B u l e
  | i + 1, j, k, B, u, h, l, e => by
    obtain ⟨j, rfl⟩ : ∃ q, j = q + 1 := ⟨j - 1, by omega⟩
    obtain ⟨k, rfl⟩ : ∃ q, k = q + 1 := ⟨k - 1, by omega⟩
    simp only [dE]
    refine sumN_zero fun a _ => ?_
    rw [dE_alt (i := i) (j := j) (B := shf B) (by omega) (by omega) e]; simp
theorem dE_alt' {n i j k : Nat} {B : Nat → Vec} {u : List Nat} (h : i ≠ j) (hi : i < k) (hj : j < k) (e : B i = B j) : dE n k B u = 0 := by
  rcases Nat.lt_or_ge i j with l | l
  · exact dE_alt l hj e
  · exact dE_alt (by omega : j < i) hi e.symm
theorem dE_exch {n k r i : Nat} (B : Nat → Vec) (x y : Vec) (u : List Nat) (hr : r < k) (hi : i < k) (ne : r ≠ i) :
    dE n k (upd (upd B r x) i y) u = - dE n k (upd (upd B r y) i x) u := by
  have z : dE n k (upd (upd B r fun a => 1 * x a + 1 * y a) i fun a => 1 * x a + 1 * y a) u = 0 := by
    refine dE_alt' ne hr hi ?_
    rw [upd_ne _ _ ne, upd_same, upd_same]
  rw [dE_lin _ _ _ _ _ _ hi, upd_comm _ _ _ ne, upd_comm _ _ _ ne, dE_lin _ _ _ _ _ _ hr, dE_lin _ _ _ _ _ _ hr] at z
  have z1 : dE n k (upd (upd B i x) r x) u = 0 := dE_alt' ne hr hi (by rw [upd_same, upd_ne _ _ ne.symm, upd_same])
  have z2 : dE n k (upd (upd B i y) r y) u = 0 := dE_alt' ne hr hi (by rw [upd_same, upd_ne _ _ ne.symm, upd_same])
  rw [z1, z2] at z
  rw [upd_comm _ _ _ ne, upd_comm (B := B) _ _ ne]
  omega
def eV (k : Nat) : Vec := fun a => if a = k then 1 else 0
def below : Nat → List Nat
  | 0 => []
  | k + 1 => k :: below k
theorem sgs_below (k : Nat) : ∀ j, j ≤ k → sgs k (below j) = 1
  | 0, _ => rfl
  | j + 1, h => by simp only [below, sgs, sgs_below k j (by omega)]; simp [sg]; omega
theorem dE_one (n : Nat) : ∀ (k j : Nat), k + j = n → dE n k (fun i => eV (i + j)) (below j) = 1
  | 0, _, _ => rfl
  | k + 1, j, h => by
    simp only [dE]
    rw [sumN_one (i := j) (by omega) fun a _ q => by simp [eV, q]]
    have e : shf (fun i => eV (i + j)) = fun i => eV (i + (j + 1)) := by funext i; simp only [shf]; congr 1; omega
    have := dE_one n k (j + 1) (by omega)
    rw [e, sgs_below j j (by omega)]
    simp only [below] at this
    rw [this]
    simp [eV]
theorem dE_unit (n : Nat) : dE n n eV [] = 1 := dE_one n n 0 (by omega)
end PD.SX

set_option linter.all false
namespace PD.SX
structure Lp where
  n : Nat                 -- all rows, the aims' row last
  m : Nat
  N : Nat                 -- columns; column N is the bounds
  z : Nat                 -- the index of the aims' own unit column
  col : Nat → Vec
  ok : Nat → Bool
variable (L : Lp)
def Lp.B (b : Nat → Nat) : Nat → Vec := fun i => L.col (b i)
def Lp.unit (b : Nat → Nat) : Int := dE L.n L.n (L.B b) []
def Lp.tab (b : Nat → Nat) (i j : Nat) : Int := dE L.n L.n (upd (L.B b) i (L.col j)) []
structure Lp.V (b : Nat → Nat) : Prop where
  hn : L.n = L.m + 1
  bz : ∀ i, L.m ≤ i → b i = L.z
  bN : ∀ i, i < L.m → b i < L.N
  pos : 0 < L.unit b
  cram : ∀ j, j ≤ L.N → ∀ a, a < L.n → L.unit b * L.col j a = sumN L.n fun i => L.tab b i j * L.col (b i) a
  feas : ∀ i, i < L.m → 0 ≤ L.tab b i L.N
variable {L} {b : Nat → Nat}
theorem Lp.B_upd (b : Nat → Nat) (r c : Nat) : L.B (upd b r c) = upd (L.B b) r (L.col c) := by
  funext i; simp only [Lp.B, upd]; split <;> rfl
theorem unit_upd (b : Nat → Nat) (r c : Nat) : L.unit (upd b r c) = L.tab b r c := by simp only [Lp.unit, Lp.tab, L.B_upd]
theorem tab_same (b : Nat → Nat) (r c j : Nat) : L.tab (upd b r c) r j = L.tab b r j := by simp only [Lp.tab, L.B_upd, upd_upd]
theorem tab_basic {i k : Nat} (hi : i < L.n) (hk : k < L.n) : L.tab b i (b k) = if i = k then L.unit b else 0 := by
  by_cases e : i = k
  · subst e; rw [if_pos rfl]; simp only [Lp.tab, Lp.unit]
    have : upd (L.B b) i (L.col (b i)) = L.B b := upd_id _ _
    rw [this]
  · simp only [if_neg e, Lp.tab]
    exact dE_alt' e hi hk (by rw [upd_same, upd_ne _ _ (Ne.symm e)]; rfl)
theorem Lp.V.phi (v : L.V b) {j : Nat} (hj : j ≤ L.N) (C : Nat → Vec) {r : Nat} (hr : r < L.n) :
    L.unit b * dE L.n L.n (upd C r (L.col j)) [] = sumN L.n fun i => L.tab b i j * dE L.n L.n (upd C r (L.col (b i))) [] := by
  have e1 : dE L.n L.n (upd C r fun a => L.unit b * L.col j a + 0 * L.col j a) [] = dE L.n L.n (upd C r fun a => sumN L.n fun i => L.tab b i j * L.col (b i) a) [] := by
    refine dE_congr fun i _ a la => ?_
    by_cases q : i = r
    · subst q; rw [upd_same, upd_same, ← v.cram j hj a la]; omega
    · rw [upd_ne _ _ q, upd_ne _ _ q]
  rw [dE_lin _ _ _ _ _ _ hr, dE_sum _ _ hr] at e1
  rw [← e1]; omega
theorem Lp.V.turn (v : L.V b) {r k c j : Nat} (hr : r < L.n) (hk : k < L.n) (ne : k ≠ r) (hc : c ≤ L.N) (hj : j ≤ L.N) :
    L.unit b * L.tab (upd b r c) k j = L.tab b r c * L.tab b k j - L.tab b k c * L.tab b r j := by
  have e := v.phi hj (upd (L.B b) r (L.col c)) hk
  simp only [Lp.tab, L.B_upd]
  rw [e]
  have q : ∀ i, i < L.n → i ≠ r → i ≠ k → L.tab b i j * dE L.n L.n (upd (upd (L.B b) r (L.col c)) k (L.col (b i))) [] = 0 := by
    intro i hi h1 h2
    rw [dE_alt' (i := i) (j := k) h2 hi hk]; omega
    rw [upd_same, upd_ne _ _ h2, upd_ne _ _ h1]; rfl
  rw [sumN_two (i := k) (k := r) hk hr ne fun a la h1 h2 => q a la h2 h1]
  have e1 : upd (upd (L.B b) r (L.col c)) k (L.col (b k)) = upd (L.B b) r (L.col c) := by
    have := upd_id (upd (L.B b) r (L.col c)) k
    rw [upd_ne _ _ ne] at this; exact this
  have e2 : dE L.n L.n (upd (upd (L.B b) r (L.col c)) k (L.col (b r))) [] = - L.tab b k c := by
    rw [dE_exch _ _ _ _ hr hk (Ne.symm ne)]
    have : upd (L.B b) r (L.col (b r)) = L.B b := upd_id _ _
    rw [this]; rfl
  rw [e1, e2]
  show L.tab b k j * L.tab b r c + L.tab b r j * - L.tab b k c = _
  show _ = L.tab b r c * L.tab b k j - L.tab b k c * L.tab b r j
  grind
structure Lp.Turn (L : Lp) (b : Nat → Nat) (c r : Nat) : Prop where
  cN : c < L.N
  cok : L.ok c = true
  cpos : 0 < L.tab b L.m c
  cmin : ∀ j, j < c → L.ok j = true → L.tab b L.m j ≤ 0
  rm : r < L.m
  rpos : 0 < L.tab b r c
  rmin : ∀ i, i < L.m → 0 < L.tab b i c → L.tab b r L.N * L.tab b i c < L.tab b i L.N * L.tab b r c ∨ (L.tab b r L.N * L.tab b i c = L.tab b i L.N * L.tab b r c ∧ b r ≤ b i)
theorem Lp.V.step (v : L.V b) {c r : Nat} (t : L.Turn b c r) : L.V (upd b r c) := by
  have hn := v.hn
  have rn : r < L.n := by have := t.rm; omega
  refine ⟨hn, fun i hi => ?_, fun i hi => ?_, ?_, fun j hj a ha => ?_, fun i hi => ?_⟩
  · rw [upd_ne _ _ (by have := t.rm; omega)]; exact v.bz i hi
  · by_cases e : i = r
    · subst e; rw [upd_same]; exact t.cN
    · rw [upd_ne _ _ e]; exact v.bN i hi
  · rw [unit_upd]; exact t.rpos
  · rw [unit_upd]
    have D0 : L.unit b ≠ 0 := by have := v.pos; omega
    refine Int.eq_of_mul_eq_mul_left D0 ?_
    rw [← sumN_mul]
    have e1 := v.cram j hj a ha
    have e2 := v.cram c (Nat.le_of_lt t.cN) a ha
    have e3 : sumN L.n (fun i => L.unit b * (L.tab (upd b r c) i j * L.col (upd b r c i) a)) =
        L.tab b r c * (sumN L.n fun i => L.tab b i j * L.col (b i) a) + (- L.tab b r j) * (sumN L.n fun i => L.tab b i c * L.col (b i) a) + sumN L.n (fun i => if i = r then L.unit b * (L.tab b r j * L.col c a) else 0) := by
      rw [← sumN_mul, ← sumN_mul, ← sumN_add, ← sumN_add]
      refine sumN_congr fun i hi => ?_
      by_cases q : i = r
      · subst q; rw [if_pos rfl, tab_same, upd_same]; grind
      · rw [if_neg q, upd_ne _ _ q]
        have := v.turn rn hi q (Nat.le_of_lt t.cN) hj
        grind
    rw [e3, sumN_one rn fun a _ q => if_neg q, if_pos rfl, ← e1, ← e2]
    grind
  · by_cases e : i = r
    · subst e; rw [tab_same]; exact v.feas i hi
    · have q := v.turn rn (by omega : i < L.n) e (Nat.le_of_lt t.cN) (Nat.le_refl L.N)
      have f1 := v.feas i hi
      have f2 := v.feas r t.rm
      have p := v.pos
      have rp := t.rpos
      have ge : 0 ≤ L.tab b r c * L.tab b i L.N - L.tab b i c * L.tab b r L.N := by
        by_cases h : 0 < L.tab b i c
        · rcases t.rmin i hi h with x | ⟨x, _⟩
          · grind
          · grind
        · have h1 : 0 ≤ (- L.tab b i c) * L.tab b r L.N := Int.mul_nonneg (by omega) f2
          have h2 : 0 ≤ L.tab b r c * L.tab b i L.N := Int.mul_nonneg (by omega) f1
          rw [Int.neg_mul] at h1; omega
      rw [← q] at ge
      by_cases h : 0 ≤ L.tab (upd b r c) i L.N
      · exact h
      · have := Int.mul_neg_of_pos_of_neg p (by omega : L.tab (upd b r c) i L.N < 0)
        omega
end PD.SX

set_option linter.all false
namespace PD.SX
variable {L : Lp}
structure Run (L : Lp) (st : Nat → Nat → Nat) (cs rs : Nat → Nat) : Prop where
  v : ∀ k, L.V (st k)
  t : ∀ k, L.Turn (st k) (cs k) (rs k)
  s : ∀ k, st (k + 1) = upd (st k) (rs k) (cs k)
variable {st : Nat → Nat → Nat} {cs rs : Nat → Nat}
def Bas (L : Lp) (b : Nat → Nat) (x : Nat) : Prop := ∃ i, i < L.m ∧ b i = x
theorem V_inj {b : Nat → Nat} (v : L.V b) {i k : Nat} (hi : i < L.n) (hk : k < L.n) (e : b i = b k) : i = k := by
  by_cases h : i = k
  · exact h
  · have := tab_basic (L := L) (b := b) hi hk
    rw [if_neg h, ← e, tab_basic hi hi, if_pos rfl] at this
    have := v.pos; omega
theorem Run.lo (R : Run L st cs rs) {k : Nat} {x : Nat} (h : Bas L (st k) x) (h2 : ¬ Bas L (st (k + 1)) x) : st k (rs k) = x := by
  obtain ⟨i, hi, e⟩ := h
  by_cases q : i = rs k
  · rw [← q]; exact e
  · exact absurd ⟨i, hi, by rw [R.s, upd_ne _ _ q]; exact e⟩ h2
theorem Run.en (R : Run L st cs rs) {k : Nat} {x : Nat} (h : ¬ Bas L (st k) x) (h2 : Bas L (st (k + 1)) x) : cs k = x := by
  obtain ⟨i, hi, e⟩ := h2
  rw [R.s] at e
  by_cases q : i = rs k
  · subst q; rw [upd_same] at e; exact e
  · rw [upd_ne _ _ q] at e; exact absurd ⟨i, hi, e⟩ h
theorem Run.enter (R : Run L st cs rs) {x a : Nat} : ∀ d, ¬ Bas L (st a) x → Bas L (st (a + d)) x → ∃ k, a ≤ k ∧ k < a + d ∧ cs k = x
  | 0, h, h2 => absurd h2 h
  | d + 1, h, h2 => by
    by_cases q : Bas L (st (a + d)) x
    · obtain ⟨k, l1, l2, e⟩ := R.enter d h q; exact ⟨k, l1, by omega, e⟩
    · exact ⟨a + d, by omega, by omega, R.en q h2⟩
theorem Run.leave (R : Run L st cs rs) {x a : Nat} : ∀ d, Bas L (st a) x → ¬ Bas L (st (a + d)) x → ∃ k, a ≤ k ∧ k < a + d ∧ st k (rs k) = x
  | 0, h, h2 => absurd h h2
  | d + 1, h, h2 => by
    by_cases q : Bas L (st (a + d)) x
    · exact ⟨a + d, by omega, by omega, R.lo q h2⟩
    · obtain ⟨k, l1, l2, e⟩ := R.leave d h q; exact ⟨k, l1, by omega, e⟩
theorem fle_trans {a D a2 D2 a3 D3 : Int} (h1 : 0 < D) (h2 : 0 < D2) (h3 : 0 < D3) (x : a * D2 ≤ a2 * D) (y : a2 * D3 ≤ a3 * D2) : a * D3 ≤ a3 * D := by
  have p := Int.mul_le_mul_of_nonneg_right x (Int.le_of_lt h3)
  have q := Int.mul_le_mul_of_nonneg_right y (Int.le_of_lt h1)
  have : a * D3 * D2 ≤ a3 * D * D2 := by grind
  exact Int.le_of_mul_le_mul_right this h2
theorem flt_trans {a D a2 D2 a3 D3 : Int} (h1 : 0 < D) (h2 : 0 < D2) (h3 : 0 < D3) (x : a * D2 < a2 * D) (y : a2 * D3 ≤ a3 * D2) : a * D3 < a3 * D := by
  have p := Int.mul_lt_mul_of_pos_right x h3
  have q := Int.mul_le_mul_of_nonneg_right y (Int.le_of_lt h1)
  have : a * D3 * D2 < a3 * D * D2 := by grind
  exact Int.lt_of_mul_lt_mul_right this (Int.le_of_lt h2)
theorem flt_trans' {a D a2 D2 a3 D3 : Int} (h1 : 0 < D) (h2 : 0 < D2) (h3 : 0 < D3) (x : a * D2 ≤ a2 * D) (y : a2 * D3 < a3 * D2) : a * D3 < a3 * D := by
  have p := Int.mul_le_mul_of_nonneg_right x (Int.le_of_lt h3)
  have q := Int.mul_lt_mul_of_pos_right y h1
  have : a * D3 * D2 < a3 * D * D2 := by grind
  exact Int.lt_of_mul_lt_mul_right this (Int.le_of_lt h2)
def zt (L : Lp) (b : Nat → Nat) : Int := - L.tab b L.m L.N
theorem Run.z (R : Run L st cs rs) (k : Nat) : zt L (st (k + 1)) * L.unit (st k) = zt L (st k) * L.unit (st (k + 1)) + L.tab (st k) L.m (cs k) * L.tab (st k) (rs k) L.N := by
  have v := R.v k
  have t := R.t k
  have hn := v.hn
  have e := v.turn (r := rs k) (k := L.m) (c := cs k) (j := L.N) (by have := t.rm; omega) (by omega) (by have := t.rm; omega) (Nat.le_of_lt t.cN) (Nat.le_refl _)
  rw [R.s, unit_upd]
  simp only [zt]
  grind
theorem Run.zle (R : Run L st cs rs) (k : Nat) : zt L (st k) * L.unit (st (k + 1)) ≤ zt L (st (k + 1)) * L.unit (st k) := by
  have e := R.z k
  have t := R.t k
  have := Int.mul_nonneg (Int.le_of_lt t.cpos) ((R.v k).feas _ t.rm)
  omega
theorem Run.zchain (R : Run L st cs rs) (k : Nat) : ∀ d, zt L (st k) * L.unit (st (k + d)) ≤ zt L (st (k + d)) * L.unit (st k)
  | 0 => Int.le_refl _
  | d + 1 => fle_trans (R.v k).pos (R.v (k + d)).pos (R.v (k + d + 1)).pos (R.zchain k d) (R.zle (k + d))
theorem Run.deg (R : Run L st cs rs) {i d : Nat} (e : st (i + d) = st i) {k : Nat} (h1 : i ≤ k) (h2 : k < i + d) : L.tab (st k) (rs k) L.N = 0 := by
  have t := R.t k
  have f := (R.v k).feas _ t.rm
  by_cases h : L.tab (st k) (rs k) L.N = 0
  · exact h
  · have lt : zt L (st k) * L.unit (st (k + 1)) < zt L (st (k + 1)) * L.unit (st k) := by
      have e := R.z k
      have := Int.mul_pos t.cpos (by omega : 0 < L.tab (st k) (rs k) L.N)
      omega
    have a := R.zchain i (k - i)
    have b := R.zchain (k + 1) (i + d - (k + 1))
    rw [show i + (k - i) = k by omega] at a
    rw [show k + 1 + (i + d - (k + 1)) = i + d by omega, e] at b
    have c := flt_trans' (R.v i).pos (R.v k).pos (R.v (k + 1)).pos a lt
    have c2 := flt_trans (R.v i).pos (R.v (k + 1)).pos (R.v i).pos c b
    omega
def Nil (L : Lp) (b : Nat → Nat) (x : Nat) : Prop := ∀ i, i < L.m → b i = x → L.tab b i L.N = 0
theorem Run.nil_step (R : Run L st cs rs) {k x : Nat} (z : L.tab (st k) (rs k) L.N = 0) (h : Nil L (st k) x ∨ cs k = x) : Nil L (st (k + 1)) x := by
  have v := R.v k
  have t := R.t k
  have hn := v.hn
  intro i hi e
  by_cases q : i = rs k
  · subst q; rw [R.s, tab_same]; exact z
  · rw [R.s, upd_ne _ _ q] at e
    have q2 := v.turn (r := rs k) (k := i) (c := cs k) (j := L.N) (by have := t.rm; omega) (by omega) q (Nat.le_of_lt t.cN) (Nat.le_refl _)
    rcases h with h | h
    · rw [h i hi e, z] at q2
      rw [R.s]
      have := v.pos
      rcases Int.mul_eq_zero.1 (q2.trans (by simp)) with y | y
      · omega
      · exact y
    · exfalso
      have b := tab_basic (L := L) (b := st k) (i := L.m) (k := i) (by omega) (by omega)
      rw [if_neg (by omega), e, ← h] at b
      have := t.cpos; omega
theorem Run.nil_on (R : Run L st cs rs) {i d : Nat} (e : st (i + d) = st i) {x k : Nat} (h1 : i ≤ k) (h : Nil L (st k) x) : ∀ q, k + q ≤ i + d → Nil L (st (k + q)) x
  | 0, _ => h
  | q + 1, l => R.nil_step (k := k + q) (R.deg (k := k + q) e (by omega) (by omega)) (.inl (R.nil_on e h1 h q (by omega)))
theorem Run.nil_all (R : Run L st cs rs) {i d : Nat} (e : st (i + d) = st i) {x k : Nat} (h1 : i ≤ k) (h2 : k < i + d) (h : cs k = x) {y : Nat} (y1 : i ≤ y) (y2 : y < i + d) : Nil L (st y) x := by
  have a : Nil L (st (k + 1)) x := R.nil_step (R.deg e h1 h2) (.inr h)
  have b := R.nil_on e (by omega : i ≤ k + 1) a (i + d - (k + 1)) (by omega)
  rw [show k + 1 + (i + d - (k + 1)) = i + d by omega, e] at b
  have c := R.nil_on e (Nat.le_refl i) b (y - i) (by omega)
  rw [show i + (y - i) = y by omega] at c
  exact c
theorem last_greatest (f : Nat → Nat) (i : Nat) : ∀ d, 0 < d → ∃ k, i ≤ k ∧ k < i + d ∧ ∀ q, i ≤ q → q < i + d → f q ≤ f k
  | 0, h => by omega
  | d + 1, _ => by
    by_cases h : d = 0
    · subst h; exact ⟨i, by omega, by omega, fun q a b => by rw [show q = i by omega]; exact Nat.le_refl _⟩
    · obtain ⟨k, a, b, c⟩ := last_greatest f i d (by omega)
      by_cases g : f k ≤ f (i + d)
      · refine ⟨i + d, by omega, by omega, fun q a2 b2 => ?_⟩
        by_cases l : q < i + d
        · exact Nat.le_trans (c q a2 l) g
        · rw [show q = i + d by omega]; exact Nat.le_refl _
      · refine ⟨k, a, by omega, fun q a2 b2 => ?_⟩
        by_cases l : q < i + d
        · exact c q a2 l
        · rw [show q = i + d by omega]; omega
theorem Run.nocycle (R : Run L st cs rs) {i d : Nat} (d0 : 0 < d) (e : st (i + d) = st i) : False := by
  obtain ⟨k, k1, k2, kmax⟩ := last_greatest cs i d d0
  have hn := (R.v 0).hn
  have nb : ∀ q, ¬ Bas L (st q) (cs q) := by
    intro q ⟨a, ha, e⟩
    have b := tab_basic (L := L) (b := st q) (i := L.m) (k := a) (by omega) (by omega)
    rw [if_neg (by omega), e] at b
    have := (R.t q).cpos; omega
  have ba : ∀ q, Bas L (st (q + 1)) (cs q) := fun q => ⟨rs q, (R.t q).rm, by rw [R.s, upd_same]⟩
  -- where the greatest one leaves
  obtain ⟨l, l1, l2, le⟩ : ∃ l, i ≤ l ∧ l < i + d ∧ st l (rs l) = cs k := by
    by_cases h : Bas L (st i) (cs k)
    · obtain ⟨l, a, b, c⟩ := R.leave (a := i) (k - i) h (by rw [show i + (k - i) = k by omega]; exact nb k)
      exact ⟨l, a, by omega, c⟩
    · obtain ⟨l, a, b, c⟩ := R.leave (a := k + 1) (i + d - (k + 1)) (ba k) (by rw [show k + 1 + (i + d - (k + 1)) = i + d by omega, e]; exact h)
      exact ⟨l, by omega, by omega, c⟩
  -- all that is basic at l and not at k enters
  have fick : ∀ x, Bas L (st l) x → ¬ Bas L (st k) x → ∃ q, i ≤ q ∧ q < i + d ∧ cs q = x := by
    intro x h1 h2
    rcases Nat.lt_or_ge k l with g | g
    · obtain ⟨q, a, b, c⟩ := R.enter (a := k) (l - k) h2 (by rw [show k + (l - k) = l by omega]; exact h1)
      exact ⟨q, by omega, by omega, c⟩
    · by_cases h : Bas L (st i) x
      · obtain ⟨q, a, b, c⟩ := R.enter (a := k) (i + d - k) h2 (by rw [show k + (i + d - k) = i + d by omega, e]; exact h)
        exact ⟨q, by omega, by omega, c⟩
      · obtain ⟨q, a, b, c⟩ := R.enter (a := i) (l - i) h (by rw [show i + (l - i) = l by omega]; exact h1)
        exact ⟨q, by omega, by omega, c⟩
  have v := R.v l
  have v2 := R.v k
  have t := R.t l
  have t2 := R.t k
  -- the aims of k along the way of l
  have ph := v.phi (Nat.le_of_lt t.cN) (L.B (st k)) (r := L.m) (by omega)
  have s1 : sumN L.n (fun a => L.tab (st l) a (cs l) * dE L.n L.n (upd (L.B (st k)) L.m (L.col (st l a))) []) =
      sumN L.m (fun a => L.tab (st l) a (cs l) * L.tab (st k) L.m (st l a)) + L.tab (st l) L.m (cs l) * L.unit (st k) := by
    rw [hn]
    simp only [sumN]
    congr 1
    · exact sumN_congr fun a ha => by simp only [Lp.tab, hn]
    · congr 1
      have : upd (L.B (st k)) L.m (L.col (st l L.m)) = L.B (st k) := by
        rw [v.bz L.m (Nat.le_refl _), ← v2.bz L.m (Nat.le_refl _)]; exact upd_id _ _
      rw [this, ← hn]; rfl
  rw [s1] at ph
  have ne : cs l ≠ cs k := by
    intro h
    exact nb l ⟨rs l, t.rm, by rw [le, h]⟩
  have sl : cs l < cs k := by have := kmax l l1 l2; omega
  have le0 : L.tab (st k) L.m (cs l) ≤ 0 := t2.cmin _ sl t.cok
  have neg : sumN L.m (fun a => L.tab (st l) a (cs l) * L.tab (st k) L.m (st l a)) < 0 := by
    have p1 : 0 < L.tab (st l) L.m (cs l) * L.unit (st k) := Int.mul_pos t.cpos v2.pos
    have p2 : L.unit (st l) * L.tab (st k) L.m (cs l) ≤ 0 := Int.mul_nonpos_of_nonneg_of_nonpos (Int.le_of_lt v.pos) le0
    have p3 : L.unit (st l) * L.tab (st k) L.m (cs l) = L.unit (st l) * dE L.n L.n (upd (L.B (st k)) L.m (L.col (cs l))) [] := rfl
    omega
  obtain ⟨a, ha, an⟩ := sumN_neg_ex neg
  have nbk : ¬ Bas L (st k) (st l a) := by
    intro ⟨q, hq, eq⟩
    have b := tab_basic (L := L) (b := st k) (i := L.m) (k := q) (by omega) (by omega)
    rw [if_neg (by omega), eq] at b
    rw [b] at an; simp at an
  obtain ⟨q, q1, q2, qe⟩ := fick _ ⟨a, ha, rfl⟩ nbk
  have lt : st l a ≤ cs k := by rw [← qe]; exact kmax q q1 q2
  by_cases h : st l a = cs k
  · have : a = rs l := V_inj v (by omega) (by have := t.rm; omega) (by rw [h, le])
    subst this
    have p := Int.mul_pos t.rpos (t2.cpos)
    rw [h] at an; omega
  · have lk : st l a < cs k := by omega
    have oq : L.ok (st l a) = true := by rw [← qe]; exact (R.t q).cok
    have m0 : L.tab (st k) L.m (st l a) ≤ 0 := t2.cmin _ lk oq
    have pa : 0 < L.tab (st l) a (cs l) := by
      by_cases g : 0 < L.tab (st l) a (cs l)
      · exact g
      · have := Int.mul_nonneg_of_nonpos_of_nonpos (by omega : L.tab (st l) a (cs l) ≤ 0) m0
        omega
    have b0 := R.nil_all e q1 q2 qe l1 l2 a ha rfl
    have f := v.feas _ t.rm
    rcases t.rmin a ha pa with x | ⟨x, y⟩
    · rw [b0] at x
      have := Int.mul_nonneg f (Int.le_of_lt pa)
      omega
    · omega
theorem pigeon : ∀ (n : Nat) (f : Nat → Nat), (∀ k, k ≤ n → f k < n) → ∃ i j, i < j ∧ j ≤ n ∧ f i = f j
  | 0, f, h => absurd (h 0 (Nat.le_refl _)) (by omega)
  | n + 1, f, h => by
    by_cases q : ∃ i, i ≤ n ∧ f i = f (n + 1)
    · obtain ⟨i, l, e⟩ := q; exact ⟨i, n + 1, by omega, Nat.le_refl _, e⟩
    · have h2 : ∀ i, i ≤ n → f i ≠ f (n + 1) := fun i l e => q ⟨i, l, e⟩
      obtain ⟨i, j, a, b, c⟩ := pigeon n (fun k => if f k = n then f (n + 1) else f k) (fun k l => by
        have a := h k (by omega); have b := h (n + 1) (Nat.le_refl _); have c := h2 k l
        split <;> omega)
      refine ⟨i, j, a, by omega, ?_⟩
      have a1 := h2 i (by omega); have a2 := h2 j (by omega)
      split at c <;> split at c <;> omega
def code (N : Nat) : Nat → (Nat → Nat) → Nat
  | 0, _ => 0
  | m + 1, b => code N m b * N + b m
theorem code_lt {N : Nat} : ∀ {m : Nat} {b : Nat → Nat}, (∀ i, i < m → b i < N) → code N m b < N ^ m
  | 0, _, _ => by simp [code]
  | m + 1, b, h => by
    have a := code_lt (N := N) (m := m) fun i l => h i (by omega)
    have c := h m (by omega)
    simp only [code, Nat.pow_succ]
    have : (code N m b + 1) * N ≤ N ^ m * N := Nat.mul_le_mul_right _ a
    rw [Nat.add_mul] at this; omega
theorem code_inj {N : Nat} : ∀ {m : Nat} {b c : Nat → Nat}, (∀ i, i < m → b i < N) → (∀ i, i < m → c i < N) → code N m b = code N m c → ∀ i, i < m → b i = c i
  | 0, _, _, _, _, _, i, l => by omega
  | m + 1, b, c, h1, h2, e, i, l => by
    simp only [code] at e
    have b1 := h1 m (by omega)
    have c1 := h2 m (by omega)
    have e1 : b m = c m := by
      have := congrArg (· % N) e
      simpa [Nat.mul_add_mod_self_right, Nat.add_mod, Nat.mod_eq_of_lt b1, Nat.mod_eq_of_lt c1] using this
    have e2 : code N m b = code N m c := by
      rw [e1] at e
      exact Nat.eq_of_mul_eq_mul_right (by omega) (by omega : code N m b * N = code N m c * N)
    by_cases q : i = m
    · subst q; exact e1
    · exact code_inj (fun i l => h1 i (by omega)) (fun i l => h2 i (by omega)) e2 i (by omega)
theorem Run.no (R : Run L st cs rs) : False := by
  obtain ⟨i, j, a, _, e⟩ := pigeon (L.N ^ L.m) (fun k => code L.N L.m (st k)) fun k _ => code_lt (R.v k).bN
  refine R.nocycle (i := i) (d := j - i) (by omega) ?_
  rw [show i + (j - i) = j by omega]
  funext x
  by_cases h : x < L.m
  · exact (code_inj (R.v i).bN (R.v j).bN e x h).symm
  · rw [(R.v i).bz x (by omega), (R.v j).bz x (by omega)]
theorem ends {b : Nat → Nat} (v : L.V b) (nx : (Nat → Nat) → Option (Nat × Nat)) (h : ∀ b c r, L.V b → nx b = some (c, r) → L.Turn b c r) :
    ∃ (k : Nat) (st : Nat → Nat → Nat), st 0 = b ∧ (∀ q, q ≤ k → L.V (st q)) ∧ (∀ q, q < k → ∃ c r, nx (st q) = some (c, r) ∧ L.Turn (st q) c r ∧ st (q + 1) = upd (st q) r c) ∧ nx (st k) = none := by
  let go (b : Nat → Nat) : Nat → Nat := match nx b with | some (c, r) => upd b r c | none => b
  let it : Nat → Nat → Nat := fun k => Nat.rec b (fun _ s => go s) k
  have it0 : it 0 = b := rfl
  have its : ∀ k, it (k + 1) = go (it k) := fun k => rfl
  have vit : ∀ k, L.V (it k) := by
    intro k
    induction k with
    | zero => exact v
    | succ k ih =>
      rw [its]
      show L.V (match nx (it k) with | some (c, r) => upd (it k) r c | none => it k)
      split
      · next e => exact ih.step (h _ _ _ ih e)
      · exact ih
  by_cases q : ∃ k, nx (it k) = none
  · have q' : ∃ k, nx (it k) = none ∧ ∀ l, l < k → nx (it l) ≠ none := by
      obtain ⟨k, hk⟩ := q
      induction k using Nat.strongRecOn with
      | ind k ih =>
        by_cases g : ∃ l, l < k ∧ nx (it l) = none
        · obtain ⟨l, hl, e⟩ := g; exact ih l hl e
        · exact ⟨k, hk, fun l hl e => g ⟨l, hl, e⟩⟩
    obtain ⟨k, e, mn⟩ := q'
    refine ⟨k, it, rfl, fun q _ => vit q, fun q hq => ?_, e⟩
    cases e2 : nx (it q) with
    | none => exact absurd e2 (mn q hq)
    | some p =>
      obtain ⟨c, r⟩ := p
      refine ⟨c, r, rfl, h _ _ _ (vit q) e2, ?_⟩
      rw [its]
      show (match nx (it q) with | some (c, r) => upd (it q) r c | none => it q) = _
      rw [e2]
  · have hs : ∀ k, ∃ p : Nat × Nat, nx (it k) = some p := by
      intro k
      cases e : nx (it k) with
      | none => exact absurd ⟨k, e⟩ q
      | some p => exact ⟨p, rfl⟩
    exfalso
    refine Run.no (L := L) (st := it) (cs := fun k => (hs k).choose.1) (rs := fun k => (hs k).choose.2) ⟨vit, fun k => h _ _ _ (vit k) (hs k).choose_spec, fun k => ?_⟩
    rw [its]
    have gs : ∀ b p, nx b = some p → go b = upd b p.2 p.1 := by
      intro b p e
      show (match nx b with | some (c, r) => upd b r c | none => b) = _
      rw [e]
    exact gs _ _ (hs k).choose_spec
structure Lp.Start (L : Lp) (b : Nat → Nat) : Prop where
  hn : L.n = L.m + 1
  bz : ∀ i, L.m ≤ i → b i = L.z
  bN : ∀ i, i < L.m → b i < L.N
  e : ∀ i, i < L.n → L.col (b i) = eV i
  f : ∀ i, i < L.m → 0 ≤ L.col L.N i
theorem upd_unit {n : Nat} {i : Nat} (hi : i < n) (v : Vec) : dE n n (upd eV i v) [] = v i := by
  have e : dE n n (upd eV i v) [] = dE n n (upd eV i fun a => sumN n fun k => v k * eV k a) [] := by
    refine dE_congr fun q hq a la => ?_
    by_cases g : q = i
    · subst g; rw [upd_same, upd_same, sumN_one la fun k _ ne => by simp [eV, Ne.symm ne]]; simp [eV]
    · rw [upd_ne _ _ g, upd_ne _ _ g]
  rw [e, dE_sum _ _ hi, sumN_one hi fun k hk ne => ?_]
  · rw [upd_id, dE_unit]; simp
  · rw [dE_alt' (i := i) (j := k) (Ne.symm ne) hi hk (by rw [upd_same, upd_ne _ _ ne])]; simp
theorem Lp.Start.unit {b : Nat → Nat} (s : L.Start b) : L.unit b = 1 := by
  rw [← dE_unit L.n]; exact dE_congr fun i hi a _ => by simp only [Lp.B]; rw [s.e i hi]
theorem Lp.Start.tab {b : Nat → Nat} (s : L.Start b) {i j : Nat} (hi : i < L.n) : L.tab b i j = L.col j i := by
  rw [← upd_unit hi (L.col j)]
  refine dE_congr fun q hq a la => ?_
  by_cases g : q = i
  · subst g; rw [upd_same, upd_same]
  · rw [upd_ne _ _ g, upd_ne _ _ g]; simp only [Lp.B]; rw [s.e q hq]
theorem Lp.Start.v {b : Nat → Nat} (s : L.Start b) : L.V b := by
  have hn := s.hn
  refine ⟨hn, s.bz, s.bN, by rw [s.unit]; omega, fun j _ a ha => ?_, fun i hi => ?_⟩
  · rw [s.unit, sumN_one ha fun i hi ne => by rw [s.e i hi]; simp [eV, Ne.symm ne], s.tab ha, s.e a ha]; simp [eV]
  · rw [s.tab (by omega)]; exact s.f i hi
end PD.SX

set_option linter.all false
namespace PD.SX
def eu : Nat → Nat → Nat → Nat × Nat
  | 0, a, b => (a, b)
  | n + 1, a, b => if b = 0 then (a, b) else eu n b (a % b)
end PD.SX

set_option linter.all false
set_option maxRecDepth 100000
set_option maxHeartbeats 1000000
namespace PD
open PySem PySem.Spec PyProof.Rows L2
theorem pow_big {i : Nat} (h : i < 4000) : (2 : Int) ^ i < 2 ^ 4000 := by
  have : (2 : Nat) ^ i < 2 ^ 4000 := Nat.pow_lt_pow_right (by decide) h
  have e1 : ((2 ^ i : Nat) : Int) = (2 : Int) ^ i := by push_cast; rfl
  have e2 : ((2 ^ 4000 : Nat) : Int) = (2 : Int) ^ 4000 := by push_cast; rfl
  rw [← e1, ← e2]; exact Int.ofNat_lt.mpr this
def rowD (ns : List Int) (a b c : Int) : List D := [.scr ns, .int a, .int b, .int c]
def RowI (a b : Int) : Prop := 0 ≤ a ∧ 0 ≤ b ∧ b < 2147483647
def Rw (ns : List Int) (o : O) : Prop := ∃ a b c, o = .lst (rowD ns a b c) ∧ RowI a b
theorem sm {b : Int} (h : b < 2 ^ 62) : b < 2 ^ 4000 := Int.lt_trans h (pow_big (i := 62) (by decide))
theorem g_pow18 : gPow [.int 10, .int 18] = some (.int 1000000000000000000) := by
  unfold gPow
  simp only
  rw [if_pos (by decide)]
  rfl
theorem at40 : atI [x0, x1, x2, x3] 0 = some x0 := rfl
theorem at41 : atI [x0, x1, x2, x3] 1 = some x1 := rfl
theorem at42 : atI [x0, x1, x2, x3] 2 = some x2 := rfl
theorem at43 : atI [x0, x1, x2, x3] 3 = some x3 := rfl
theorem pu41 : (O.lst [x0, x1, x2, x3]).put (.int 1) d = some (.lst [x0, d, x2, x3]) := rfl
theorem pu42 : (O.lst [x0, x1, x2, x3]).put (.int 2) d = some (.lst [x0, x1, d, x3]) := rfl
theorem pu43 : (O.lst [x0, x1, x2, x3]).put (.int 3) d = some (.lst [x0, x1, x2, d]) := rfl
theorem p_taken0 {ns : List Int} {a b c many : Int} (hI : RowI a b) (hm : 0 < many) (hb : many < 2 ^ 62) : ∃ v a' b' c', m__law_taken (.lst (rowD ns a b c)) [.int many] = .ok (.d (.int v)) (.lst (rowD ns a' b' c')) ∧ RowI a' b' ∧ 0 ≤ v ∧ v < many := by
  obtain ⟨ha, hb0, hb1⟩ := hI
  have hmd : ∀ x, gMod [.int x, .int many] = some (.int (x % many)) := fun x => g_mod hm
  have hdv : ∀ x, gDiv [.int x, .int many] = some (.int (x / many)) := fun x => g_div hm (sm hb)
  by_cases hc : c > 0
  · refine ⟨c % many, a, b, c / many, ?_, ⟨ha, hb0, hb1⟩, Int.emod_nonneg _ (by omega), Int.emod_lt_of_pos _ hm⟩
    simp [m__law_taken, runB, b__law_taken, rowD, at43, hc, hmd, hdv, gSet, isOwn, pu43, ow0]
  · have hM : ∀ x, gMod [.int x, .int 2147483647] = some (.int (x % 2147483647)) := fun x => g_mod (by decide)
    have hmul := g_mul (a := b) (b := 48271) hb0 (sm (by omega)) (by decide) (sm (by decide))
    have r2 : ∀ x : Int, 0 ≤ x % 2147483647 ∧ x % 2147483647 < 2147483647 := fun x => ⟨Int.emod_nonneg _ (by decide), Int.emod_lt_of_pos _ (by decide)⟩
    have hc' : ¬ (0 < c) := hc
    by_cases hl : a + 1 > ns.length
    · have hl' : (ns.length : Int) < a + 1 := hl
      have h7 : ∀ x, gDiv [.int x, .int 7] = some (.int (x / 7)) := fun x => g_div (by decide) (sm (by decide))
      have hM1 := hM (b * 48271 + 11)
      obtain ⟨r3, r4⟩ := r2 (b * 48271 + 11)
      generalize (b * 48271 + 11) % 2147483647 = b2 at *
      refine ⟨(b2 / 7) % many, a + 1, b2, c, ?_, ⟨by omega, r3, r4⟩, Int.emod_nonneg _ (by omega), Int.emod_lt_of_pos _ hm⟩
      simp [m__law_taken, runB, b__law_taken, rowD, at40, at41, at42, at43, hc', hl', hmd, hmul, hM1, h7, gSet, isOwn, pu41, pu42, ow0]
    · have hl' : ¬ ((ns.length : Int) < a + 1) := hl
      have hat : ∃ cell, atI ns (a + 1 - 1) = some cell := by
        refine ⟨ns[a.toNat]'(by omega), ?_⟩
        have e : a + 1 - 1 = ((a.toNat : Nat) : Int) := by omega
        rw [e]
        exact atI_nat (by omega)
      obtain ⟨cell, hat⟩ := hat
      have hM1 := hM (b * 48271 + cell + 11)
      obtain ⟨r3, r4⟩ := r2 (b * 48271 + cell + 11)
      generalize (b * 48271 + cell + 11) % 2147483647 = b2 at *
      generalize ha1 : a + 1 = a1 at *
      by_cases hbig : cell ≥ 1000000000000000000
      · have hbig' : (1000000000000000000 : Int) ≤ cell := hbig
        refine ⟨cell % many, a1, b2, cell / many, ?_, ⟨by omega, r3, r4⟩, Int.emod_nonneg _ (by omega), Int.emod_lt_of_pos _ hm⟩
        simp [m__law_taken, runB, b__law_taken, rowD, at40, at41, at42, at43, hc', hl', ha1, hmd, hdv, hmul, hM1, hat, g_pow18, hbig', gSet, isOwn, pu41, pu42, pu43, ow0]
      · have hbig' : ¬ ((1000000000000000000 : Int) ≤ cell) := hbig
        have hP : ∀ x, gMod [.int x, .int 1000003] = some (.int (x % 1000003)) := fun x => g_mod (by decide)
        have h11 : ∀ x, gDiv [.int x, .int 11] = some (.int (x / 11)) := fun x => g_div (by decide) (sm (by decide))
        have r5 : 0 ≤ cell % 1000003 ∧ cell % 1000003 < 1000003 := ⟨Int.emod_nonneg _ (by decide), Int.emod_lt_of_pos _ (by decide)⟩
        have hP1 := hP cell
        generalize cell % 1000003 = c3 at *
        have hmul2 := g_mul (a := c3) (b := 31) r5.1 (sm (by omega)) (by decide) (sm (by decide))
        refine ⟨(c3 * 31 + b2 / 11) % many, a1, b2, c, ?_, ⟨by omega, r3, r4⟩, Int.emod_nonneg _ (by omega), Int.emod_lt_of_pos _ hm⟩
        simp [m__law_taken, runB, b__law_taken, rowD, at40, at41, at42, at43, hc', hl', ha1, hmd, hmul, hM1, hat, g_pow18, hbig', hP1, hmul2, h11, gSet, isOwn, pu41, pu42, ow0]
theorem seq_ok {f g : S → SR} {s s1 : S} (h : f s = .nx s1) : sSeq f g s = g s1 := by rw [x_seq, h]
theorem callB {i n : Nat} {m : O → List D → FB} {fs : S → R (List W)} {s : S} {o o' : O} {r : Rv} {ws : List W} {ds : List D} (h0 : s[i]? = some (.ow o)) (h : fs s = .ok ws s) (h2 : fzL ws = some ds) (h3 : ds.length = n) (h4 : m o ds = .ok r o') :
    rCallB n i m fs s = .ok r (s.set i (.ow o')) := by
  unfold rCallB
  rw [if_pos (by unfold isOwn; rw [h0]), h, R.bind_ok]
  unfold goB
  rw [h2, h0]
  show (if ds.length = n then (match m o ds with
    | .ok r o' => .ok r (s.set i (.ow o'))
    | .er c ns es o' => .er c ns es (s.set i (.ow o'))
    | .st => .st) else .st) = R.ok r (s.set i (.ow o'))
  rw [if_pos h3, h4]
theorem p_taken {ns : List Int} {o : O} {many : Int} (hI : Rw ns o) (hm : 0 < many) (hb : many < 2 ^ 62) : ∃ v o', m__law_taken o [.int many] = .ok (.d (.int v)) o' ∧ Rw ns o' ∧ 0 ≤ v ∧ v < many := by
  obtain ⟨a, b, c, rfl, h⟩ := hI
  obtain ⟨v, a', b', c', e, h', h1, h2⟩ := p_taken0 (c := c) h hm hb
  exact ⟨v, _, e, ⟨a', b', c', rfl, h'⟩, h1, h2⟩
theorem tk0 {ns : List Int} {o : O} {many : Int} {fe : S → R W} {s : S} (hI : Rw ns o) (hm : 0 < many) (hb : many < 2 ^ 62) (he : fe (.ow o :: s) = .ok (.d (.int many)) (.ow o :: s)) :
    ∃ v o', eFz (rCallB 1 0 m__law_taken (aCons fe aNil)) (.ow o :: s) = .ok (.d (.int v)) (.ow o' :: s) ∧ Rw ns o' ∧ 0 ≤ v ∧ v < many := by
  obtain ⟨v, o', e, h, h1, h2⟩ := p_taken hI hm hb
  refine ⟨v, o', ?_, h, h1, h2⟩
  rw [x_eFz, callB (n := 1) (o := o) (ws := [.d (.int many)]) (ds := [.int many]) rfl (by rw [x_aCons, he]; rfl) rfl rfl e]
  rfl
theorem p_pick {ns : List Int} {o : O} {xs : List D} (hI : Rw ns o) (h0 : xs ≠ []) (hl : xs.length ≤ 100) : ∃ x o', m__law_pick o [.lst xs] = .ok (.d x) o' ∧ Rw ns o' ∧ x ∈ xs := by
  have hpos : 0 < xs.length := List.length_pos_iff.mpr h0
  obtain ⟨v, o', e, hI', h1, h2⟩ := tk0 (fe := eApp gLen (aCons (eV 1) aNil)) (s := [.fz (.lst xs)]) (many := xs.length) hI (by omega) (by omega) (by simp)
  obtain ⟨i, rfl⟩ := Int.eq_ofNat_of_zero_le h1
  have hi : i < xs.length := by omega
  refine ⟨xs[i], o', ?_, hI', List.getElem_mem hi⟩
  have hat := atI_nat hi
  simp [m__law_pick, runB, b__law_pick, -x_eFz, e, hat, ow0, gIx2, gIx]
@[simp] theorem x_eSl {fe : S → R W} {lo hi : Option (S → R W)} {s : S} : eSl fe lo hi s = (fe s).bind fun w s1 => (oPart lo s1).bind fun l s2 => (oPart hi s2).bind fun h s3 => ofO s3 ((rdW s3 w).bind fun d => (gSl l h d).map W.d) := rfl
@[simp] theorem x_oP0 {s : S} : oPart none s = .ok none s := rfl
@[simp] theorem x_oP {f : S → R W} {s : S} : oPart (some f) s = (f s).bind fun w s1 => match w with
    | .d (.int i) => .ok (some i) s1
    | _ => .st := rfl
@[simp] theorem g_slT {lo hi : Option Int} {xs : List D} : gSl lo hi (.tup xs) = some (.tup (cutD xs lo hi)) := rfl
section
variable {g : List D → Option D} {fa fb fc : S → R W} {s s1 s2 s3 : S} {a b c d r : D} {rv : Rv} {m : List D → FR} {i : Nat}
theorem fzE {fr : S → R Rv} (h : fr s = .ok (.d a) s1) : eFz fr s = .ok (.d a) s1 := by rw [x_eFz, h]; rfl
end
section
variable {vs vs1 : List Nat} {t t1 : D → S → R Unit} {c c1 : S → R Bool} {f : S → R W} {s0 s s1 : S} {fi fi1 : S → R (List D)} {α : Type}
end
section
variable {fa fb : S → R W} {fs : S → R (List W)} {s s1 s2 : S} {a d : D}
end
end PD

set_option linter.all false
set_option maxRecDepth 100000
set_option maxHeartbeats 1000000
namespace PD
open PySem PySem.Spec PyProof.Rows L2
section
variable {fa fb fc : S → R W} {f g : S → SR} {s s1 s2 s3 s' : S} {a b c d x : D} {cl : Str} {ns : List Str} {ds es cs pre : List D} {n i : Nat} {js : List Nat} {m : List D → FR} {mr : Str → List Str → List D → Option D} {fo : S → R W}
theorem asgT_ok {t : D → S → R Unit} (h : fa s = .ok (.d d) s1) (h2 : t d s1 = .ok () s2) : sAsg t fa s = .nx s2 := by
  rw [x_asg, h]
  show tgo (t d s1) _ = _
  rw [h2]; rfl
end
section
variable {fo fe : S → R W} {s s1 s2 : S} {ds : List D} {d r : D} {f g : S → SR} {rv : Rv} {n : Nat} {b : S → SR}
end
end PD

set_option linter.all false
set_option maxRecDepth 100000
set_option maxHeartbeats 2000000
namespace PD
open PySem PySem.Spec PyProof.Rows L2
def rOf (k : Str × List Str × List D) : D := .tup (.str k.1 :: k.2.2.reverse)
theorem okEn_of (k : Str × List Str × List D) (h1 : m__law_refusal k.1 k.2.1 k.2.2 = some (rOf k)) (h2 : m__law_same [rOf k, rOf k] = .ok (.d (.bl true))) (h3 : gEq [rOf k, .tup [.str "other"]] = some (.bl false)) : okEn k := ⟨_, h1, h2, h3⟩
def tens : List D := [.non, .bl true, .int 0, .int 7, .int 10000000000000000000000000000000000000000, .str "ann", .tup [.int 1, .int 2], .lst [.int 1], .int (-3), .str ""]
theorem okV0 : okVal (.non) := by
  refine ⟨fun k hk => ?_, s5L (.non), by kernel_rfl⟩
  simp only [keysA, keysB, List.cons_append, List.nil_append, List.mem_cons, List.not_mem_nil, or_false] at hk
  rcases hk with rfl | rfl | rfl | rfl | rfl | rfl | rfl | rfl | rfl | rfl | rfl | rfl
  · exact okEn_of _ (by kernel_rfl) (by kernel_rfl) (by kernel_rfl)
  · exact okEn_of _ (by kernel_rfl) (by kernel_rfl) (by kernel_rfl)
  · exact okEn_of _ (by kernel_rfl) (by kernel_rfl) (by kernel_rfl)
  · exact okEn_of _ (by kernel_rfl) (by kernel_rfl) (by kernel_rfl)
  · exact okEn_of _ (by kernel_rfl) (by kernel_rfl) (by kernel_rfl)
  · exact okEn_of _ (by kernel_rfl) (by kernel_rfl) (by kernel_rfl)
  · exact okEn_of _ (by kernel_rfl) (by kernel_rfl) (by kernel_rfl)
  · exact okEn_of _ (by kernel_rfl) (by kernel_rfl) (by kernel_rfl)
  · exact okEn_of _ (by kernel_rfl) (by kernel_rfl) (by kernel_rfl)
  · exact okEn_of _ (by kernel_rfl) (by kernel_rfl) (by kernel_rfl)
  · exact okEn_of _ (by kernel_rfl) (by kernel_rfl) (by kernel_rfl)
  · exact okEn_of _ (by kernel_rfl) (by kernel_rfl) (by kernel_rfl)
theorem okV1 : okVal (.bl true) := by
  refine ⟨fun k hk => ?_, s5L (.bl true), by kernel_rfl⟩
  simp only [keysA, keysB, List.cons_append, List.nil_append, List.mem_cons, List.not_mem_nil, or_false] at hk
  rcases hk with rfl | rfl | rfl | rfl | rfl | rfl | rfl | rfl | rfl | rfl | rfl | rfl
  · exact okEn_of _ (by kernel_rfl) (by kernel_rfl) (by kernel_rfl)
  · exact okEn_of _ (by kernel_rfl) (by kernel_rfl) (by kernel_rfl)
  · exact okEn_of _ (by kernel_rfl) (by kernel_rfl) (by kernel_rfl)
  · exact okEn_of _ (by kernel_rfl) (by kernel_rfl) (by kernel_rfl)
  · exact okEn_of _ (by kernel_rfl) (by kernel_rfl) (by kernel_rfl)
  · exact okEn_of _ (by kernel_rfl) (by kernel_rfl) (by kernel_rfl)
  · exact okEn_of _ (by kernel_rfl) (by kernel_rfl) (by kernel_rfl)
  · exact okEn_of _ (by kernel_rfl) (by kernel_rfl) (by kernel_rfl)
  · exact okEn_of _ (by kernel_rfl) (by kernel_rfl) (by kernel_rfl)
  · exact okEn_of _ (by kernel_rfl) (by kernel_rfl) (by kernel_rfl)
  · exact okEn_of _ (by kernel_rfl) (by kernel_rfl) (by kernel_rfl)
  · exact okEn_of _ (by kernel_rfl) (by kernel_rfl) (by kernel_rfl)
theorem okV2 : okVal (.int 0) := by
  refine ⟨fun k hk => ?_, s5L (.int 0), by kernel_rfl⟩
  simp only [keysA, keysB, List.cons_append, List.nil_append, List.mem_cons, List.not_mem_nil, or_false] at hk
  rcases hk with rfl | rfl | rfl | rfl | rfl | rfl | rfl | rfl | rfl | rfl | rfl | rfl
  · exact okEn_of _ (by kernel_rfl) (by kernel_rfl) (by kernel_rfl)
  · exact okEn_of _ (by kernel_rfl) (by kernel_rfl) (by kernel_rfl)
  · exact okEn_of _ (by kernel_rfl) (by kernel_rfl) (by kernel_rfl)
  · exact okEn_of _ (by kernel_rfl) (by kernel_rfl) (by kernel_rfl)
  · exact okEn_of _ (by kernel_rfl) (by kernel_rfl) (by kernel_rfl)
  · exact okEn_of _ (by kernel_rfl) (by kernel_rfl) (by kernel_rfl)
  · exact okEn_of _ (by kernel_rfl) (by kernel_rfl) (by kernel_rfl)
  · exact okEn_of _ (by kernel_rfl) (by kernel_rfl) (by kernel_rfl)
  · exact okEn_of _ (by kernel_rfl) (by kernel_rfl) (by kernel_rfl)
  · exact okEn_of _ (by kernel_rfl) (by kernel_rfl) (by kernel_rfl)
  · exact okEn_of _ (by kernel_rfl) (by kernel_rfl) (by kernel_rfl)
  · exact okEn_of _ (by kernel_rfl) (by kernel_rfl) (by kernel_rfl)
theorem okV3 : okVal (.int 7) := by
  refine ⟨fun k hk => ?_, s5L (.int 7), by kernel_rfl⟩
  simp only [keysA, keysB, List.cons_append, List.nil_append, List.mem_cons, List.not_mem_nil, or_false] at hk
  rcases hk with rfl | rfl | rfl | rfl | rfl | rfl | rfl | rfl | rfl | rfl | rfl | rfl
  · exact okEn_of _ (by kernel_rfl) (by kernel_rfl) (by kernel_rfl)
  · exact okEn_of _ (by kernel_rfl) (by kernel_rfl) (by kernel_rfl)
  · exact okEn_of _ (by kernel_rfl) (by kernel_rfl) (by kernel_rfl)
  · exact okEn_of _ (by kernel_rfl) (by kernel_rfl) (by kernel_rfl)
  · exact okEn_of _ (by kernel_rfl) (by kernel_rfl) (by kernel_rfl)
  · exact okEn_of _ (by kernel_rfl) (by kernel_rfl) (by kernel_rfl)
  · exact okEn_of _ (by kernel_rfl) (by kernel_rfl) (by kernel_rfl)
  · exact okEn_of _ (by kernel_rfl) (by kernel_rfl) (by kernel_rfl)
  · exact okEn_of _ (by kernel_rfl) (by kernel_rfl) (by kernel_rfl)
  · exact okEn_of _ (by kernel_rfl) (by kernel_rfl) (by kernel_rfl)
  · exact okEn_of _ (by kernel_rfl) (by kernel_rfl) (by kernel_rfl)
  · exact okEn_of _ (by kernel_rfl) (by kernel_rfl) (by kernel_rfl)
theorem okV4 : okVal (.int 10000000000000000000000000000000000000000) := by
  refine ⟨fun k hk => ?_, s5L (.int 10000000000000000000000000000000000000000), by kernel_rfl⟩
  simp only [keysA, keysB, List.cons_append, List.nil_append, List.mem_cons, List.not_mem_nil, or_false] at hk
  rcases hk with rfl | rfl | rfl | rfl | rfl | rfl | rfl | rfl | rfl | rfl | rfl | rfl
  · exact okEn_of _ (by kernel_rfl) (by kernel_rfl) (by kernel_rfl)
  · exact okEn_of _ (by kernel_rfl) (by kernel_rfl) (by kernel_rfl)
  · exact okEn_of _ (by kernel_rfl) (by kernel_rfl) (by kernel_rfl)
  · exact okEn_of _ (by kernel_rfl) (by kernel_rfl) (by kernel_rfl)
  · exact okEn_of _ (by kernel_rfl) (by kernel_rfl) (by kernel_rfl)
  · exact okEn_of _ (by kernel_rfl) (by kernel_rfl) (by kernel_rfl)
  · exact okEn_of _ (by kernel_rfl) (by kernel_rfl) (by kernel_rfl)
  · exact okEn_of _ (by kernel_rfl) (by kernel_rfl) (by kernel_rfl)
  · exact okEn_of _ (by kernel_rfl) (by kernel_rfl) (by kernel_rfl)
  · exact okEn_of _ (by kernel_rfl) (by kernel_rfl) (by kernel_rfl)
  · exact okEn_of _ (by kernel_rfl) (by kernel_rfl) (by kernel_rfl)
  · exact okEn_of _ (by kernel_rfl) (by kernel_rfl) (by kernel_rfl)
theorem okV5 : okVal (.str "ann") := by
  refine ⟨fun k hk => ?_, s5L (.str "ann"), by kernel_rfl⟩
  simp only [keysA, keysB, List.cons_append, List.nil_append, List.mem_cons, List.not_mem_nil, or_false] at hk
  rcases hk with rfl | rfl | rfl | rfl | rfl | rfl | rfl | rfl | rfl | rfl | rfl | rfl
  · exact okEn_of _ (by kernel_rfl) (by kernel_rfl) (by kernel_rfl)
  · exact okEn_of _ (by kernel_rfl) (by kernel_rfl) (by kernel_rfl)
  · exact okEn_of _ (by kernel_rfl) (by kernel_rfl) (by kernel_rfl)
  · exact okEn_of _ (by kernel_rfl) (by kernel_rfl) (by kernel_rfl)
  · exact okEn_of _ (by kernel_rfl) (by kernel_rfl) (by kernel_rfl)
  · exact okEn_of _ (by kernel_rfl) (by kernel_rfl) (by kernel_rfl)
  · exact okEn_of _ (by kernel_rfl) (by kernel_rfl) (by kernel_rfl)
  · exact okEn_of _ (by kernel_rfl) (by kernel_rfl) (by kernel_rfl)
  · exact okEn_of _ (by kernel_rfl) (by kernel_rfl) (by kernel_rfl)
  · exact okEn_of _ (by kernel_rfl) (by kernel_rfl) (by kernel_rfl)
  · exact okEn_of _ (by kernel_rfl) (by kernel_rfl) (by kernel_rfl)
  · exact okEn_of _ (by kernel_rfl) (by kernel_rfl) (by kernel_rfl)
theorem okV6 : okVal (.tup [.int 1, .int 2]) := by
  refine ⟨fun k hk => ?_, s5L (.tup [.int 1, .int 2]), by kernel_rfl⟩
  simp only [keysA, keysB, List.cons_append, List.nil_append, List.mem_cons, List.not_mem_nil, or_false] at hk
  rcases hk with rfl | rfl | rfl | rfl | rfl | rfl | rfl | rfl | rfl | rfl | rfl | rfl
  · exact okEn_of _ (by kernel_rfl) (by kernel_rfl) (by kernel_rfl)
  · exact okEn_of _ (by kernel_rfl) (by kernel_rfl) (by kernel_rfl)
  · exact okEn_of _ (by kernel_rfl) (by kernel_rfl) (by kernel_rfl)
  · exact okEn_of _ (by kernel_rfl) (by kernel_rfl) (by kernel_rfl)
  · exact okEn_of _ (by kernel_rfl) (by kernel_rfl) (by kernel_rfl)
  · exact okEn_of _ (by kernel_rfl) (by kernel_rfl) (by kernel_rfl)
  · exact okEn_of _ (by kernel_rfl) (by kernel_rfl) (by kernel_rfl)
  · exact okEn_of _ (by kernel_rfl) (by kernel_rfl) (by kernel_rfl)
  · exact okEn_of _ (by kernel_rfl) (by kernel_rfl) (by kernel_rfl)
  · exact okEn_of _ (by kernel_rfl) (by kernel_rfl) (by kernel_rfl)
  · exact okEn_of _ (by kernel_rfl) (by kernel_rfl) (by kernel_rfl)
  · exact okEn_of _ (by kernel_rfl) (by kernel_rfl) (by kernel_rfl)
theorem okV7 : okVal (.lst [.int 1]) := by
  refine ⟨fun k hk => ?_, s5L (.lst [.int 1]), by kernel_rfl⟩
  simp only [keysA, keysB, List.cons_append, List.nil_append, List.mem_cons, List.not_mem_nil, or_false] at hk
  rcases hk with rfl | rfl | rfl | rfl | rfl | rfl | rfl | rfl | rfl | rfl | rfl | rfl
  · exact okEn_of _ (by kernel_rfl) (by kernel_rfl) (by kernel_rfl)
  · exact okEn_of _ (by kernel_rfl) (by kernel_rfl) (by kernel_rfl)
  · exact okEn_of _ (by kernel_rfl) (by kernel_rfl) (by kernel_rfl)
  · exact okEn_of _ (by kernel_rfl) (by kernel_rfl) (by kernel_rfl)
  · exact okEn_of _ (by kernel_rfl) (by kernel_rfl) (by kernel_rfl)
  · exact okEn_of _ (by kernel_rfl) (by kernel_rfl) (by kernel_rfl)
  · exact okEn_of _ (by kernel_rfl) (by kernel_rfl) (by kernel_rfl)
  · exact okEn_of _ (by kernel_rfl) (by kernel_rfl) (by kernel_rfl)
  · exact okEn_of _ (by kernel_rfl) (by kernel_rfl) (by kernel_rfl)
  · exact okEn_of _ (by kernel_rfl) (by kernel_rfl) (by kernel_rfl)
  · exact okEn_of _ (by kernel_rfl) (by kernel_rfl) (by kernel_rfl)
  · exact okEn_of _ (by kernel_rfl) (by kernel_rfl) (by kernel_rfl)
theorem okV8 : okVal (.int (-3)) := by
  refine ⟨fun k hk => ?_, s5L (.int (-3)), by kernel_rfl⟩
  simp only [keysA, keysB, List.cons_append, List.nil_append, List.mem_cons, List.not_mem_nil, or_false] at hk
  rcases hk with rfl | rfl | rfl | rfl | rfl | rfl | rfl | rfl | rfl | rfl | rfl | rfl
  · exact okEn_of _ (by kernel_rfl) (by kernel_rfl) (by kernel_rfl)
  · exact okEn_of _ (by kernel_rfl) (by kernel_rfl) (by kernel_rfl)
  · exact okEn_of _ (by kernel_rfl) (by kernel_rfl) (by kernel_rfl)
  · exact okEn_of _ (by kernel_rfl) (by kernel_rfl) (by kernel_rfl)
  · exact okEn_of _ (by kernel_rfl) (by kernel_rfl) (by kernel_rfl)
  · exact okEn_of _ (by kernel_rfl) (by kernel_rfl) (by kernel_rfl)
  · exact okEn_of _ (by kernel_rfl) (by kernel_rfl) (by kernel_rfl)
  · exact okEn_of _ (by kernel_rfl) (by kernel_rfl) (by kernel_rfl)
  · exact okEn_of _ (by kernel_rfl) (by kernel_rfl) (by kernel_rfl)
  · exact okEn_of _ (by kernel_rfl) (by kernel_rfl) (by kernel_rfl)
  · exact okEn_of _ (by kernel_rfl) (by kernel_rfl) (by kernel_rfl)
  · exact okEn_of _ (by kernel_rfl) (by kernel_rfl) (by kernel_rfl)
theorem okV9 : okVal (.str "") := by
  refine ⟨fun k hk => ?_, s5L (.str ""), by kernel_rfl⟩
  simp only [keysA, keysB, List.cons_append, List.nil_append, List.mem_cons, List.not_mem_nil, or_false] at hk
  rcases hk with rfl | rfl | rfl | rfl | rfl | rfl | rfl | rfl | rfl | rfl | rfl | rfl
  · exact okEn_of _ (by kernel_rfl) (by kernel_rfl) (by kernel_rfl)
  · exact okEn_of _ (by kernel_rfl) (by kernel_rfl) (by kernel_rfl)
  · exact okEn_of _ (by kernel_rfl) (by kernel_rfl) (by kernel_rfl)
  · exact okEn_of _ (by kernel_rfl) (by kernel_rfl) (by kernel_rfl)
  · exact okEn_of _ (by kernel_rfl) (by kernel_rfl) (by kernel_rfl)
  · exact okEn_of _ (by kernel_rfl) (by kernel_rfl) (by kernel_rfl)
  · exact okEn_of _ (by kernel_rfl) (by kernel_rfl) (by kernel_rfl)
  · exact okEn_of _ (by kernel_rfl) (by kernel_rfl) (by kernel_rfl)
  · exact okEn_of _ (by kernel_rfl) (by kernel_rfl) (by kernel_rfl)
  · exact okEn_of _ (by kernel_rfl) (by kernel_rfl) (by kernel_rfl)
  · exact okEn_of _ (by kernel_rfl) (by kernel_rfl) (by kernel_rfl)
  · exact okEn_of _ (by kernel_rfl) (by kernel_rfl) (by kernel_rfl)
theorem okV {v : D} (h : v ∈ tens) : okVal v := by
  simp only [tens, List.mem_cons, List.not_mem_nil, or_false] at h
  rcases h with rfl | rfl | rfl | rfl | rfl | rfl | rfl | rfl | rfl | rfl
  · exact okV0
  · exact okV1
  · exact okV2
  · exact okV3
  · exact okV4
  · exact okV5
  · exact okV6
  · exact okV7
  · exact okV8
  · exact okV9
theorem plain_law (ns : List Int) (hl : ns.length ≤ 63) (hb : ∀ z ∈ ns, Builtin.Int.intBits z ≤ 1048576) : m_law [.scr ns] = .ok (.d (.bl true)) := by
  obtain ⟨x, o', e, _, hx⟩ := p_pick (ns := ns) (o := .lst (rowD ns 0 6001 0)) (xs := tens) ⟨0, 6001, 0, rfl, by decide, by decide, by decide⟩ (by decide) (by decide)
  have h1 : (sOwn 1 (rLst (aCons (eV 0) (aCons (eC (.int 0)) (aCons (eC (.int 6001)) (aCons (eC (.int 0)) aNil)))))) [.fz (.scr ns), .no, .no, .no, .no, .no, .no] = .nx [.fz (.scr ns), .ow (.lst (rowD ns 0 6001 0)), .no, .no, .no, .no, .no] := rfl
  have hl : (aCons (eLst (aCons (eC .non) (aCons (eC (.bl true)) (aCons (eC (.int 0)) (aCons (eC (.int 7)) (aCons (eBin gPow (eC (.int 10)) (eC (.int 40))) (aCons (eC (.str "ann")) (aCons (eTup (aCons (eC (.int 1)) (aCons (eC (.int 2)) aNil))) (aCons (eLst (aCons (eC (.int 1)) aNil)) (aCons (eUn gNeg (eC (.int 3))) (aCons (eC (.str "")) aNil))))))))))) aNil) [.fz (.scr ns), .ow (.lst (rowD ns 0 6001 0)), .no, .no, .no, .no, .no] = .ok [.d (.lst tens)] [.fz (.scr ns), .ow (.lst (rowD ns 0 6001 0)), .no, .no, .no, .no, .no] := by kernel_rfl
  have hc := callB (i := 1) (n := 1) (m := m__law_pick) (o := .lst (rowD ns 0 6001 0)) (o' := o') (r := .d x) (ds := [.lst tens]) rfl hl rfl rfl e
  have h2 := asgT_ok (t := gN 2) (s2 := [.fz (.scr ns), .ow o', .fz x, .no, .no, .no, .no]) (fzE hc) rfl
  have h3 : bX [.fz (.scr ns), .ow o', .fz x, .no, .no, .no, .no] = .rt (.d (.bl true)) nos := bX_at rfl rfl (okV hx)
  have hb : b_law [.fz (.scr ns), .no, .no, .no, .no, .no, .no] = .rt (.d (.bl true)) nos := by
    unfold b_law
    rw [seq_ok h1, seq_ok h2, h3]
  unfold m_law runP
  rw [show (([D.scr ns].map Sl.fz ++ List.replicate (7 - [D.scr ns].length) Sl.no : S)) = [.fz (.scr ns), .no, .no, .no, .no, .no, .no] from rfl, hb]
end PD

set_option linter.all false
set_option maxRecDepth 100000
set_option maxHeartbeats 2000000
namespace PD
open PySem PySem.Spec PyProof.Rows L2 LamX NdefX
set_option maxHeartbeats 0 in
theorem law_at {C_BadClaim C_BadLine C_BadLines C_BadNumber C_BadPieces C_BadRig C_BadTackle C_BadText C_LoftError C_NotHeld C_NothingDone C_UnknownMember C_UnknownPoint nmx_BadClaim qx_BadClaim Nx_BadClaim bsx_BadClaim bmx_BadClaim snx_BadClaim sux_BadClaim abx_BadClaim cox_BadClaim ddx_BadClaim k0_BadClaim k1_BadClaim k2_BadClaim k3_BadClaim k5_BadClaim clx_BadClaim AI_BadClaim ocx_BadClaim odx_BadClaim kVx_BadClaim dcx_BadClaim pmx_BadClaim anx_BadClaim cda_BadClaim ctx_BadClaim ccx_BadClaim slx_BadClaim cex_BadClaim cedx_BadClaim cesx_BadClaim ccc_BadClaim ccd_BadClaim cvx_BadClaim ccs_BadClaim flx_BadClaim tfx_BadClaim nmx_BadLine qx_BadLine Nx_BadLine bsx_BadLine bmx_BadLine snx_BadLine sux_BadLine abx_BadLine cox_BadLine ddx_BadLine k0_BadLine k1_BadLine k2_BadLine k3_BadLine k5_BadLine clx_BadLine AI_BadLine ocx_BadLine odx_BadLine kVx_BadLine dcx_BadLine pmx_BadLine anx_BadLine cda_BadLine ctx_BadLine ccx_BadLine slx_BadLine cex_BadLine cedx_BadLine cesx_BadLine ccc_BadLine ccd_BadLine cvx_BadLine ccs_BadLine flx_BadLine tfx_BadLine nmx_BadLines qx_BadLines Nx_BadLines bsx_BadLines bmx_BadLines snx_BadLines sux_BadLines abx_BadLines cox_BadLines ddx_BadLines k0_BadLines k1_BadLines k2_BadLines k3_BadLines k5_BadLines clx_BadLines AI_BadLines ocx_BadLines odx_BadLines kVx_BadLines dcx_BadLines pmx_BadLines anx_BadLines cda_BadLines ctx_BadLines ccx_BadLines slx_BadLines cex_BadLines cedx_BadLines cesx_BadLines ccc_BadLines ccd_BadLines cvx_BadLines ccs_BadLines flx_BadLines tfx_BadLines nmx_BadNumber qx_BadNumber Nx_BadNumber bsx_BadNumber bmx_BadNumber snx_BadNumber sux_BadNumber abx_BadNumber cox_BadNumber ddx_BadNumber k0_BadNumber k1_BadNumber k2_BadNumber k3_BadNumber k5_BadNumber clx_BadNumber AI_BadNumber ocx_BadNumber odx_BadNumber kVx_BadNumber dcx_BadNumber pmx_BadNumber anx_BadNumber cda_BadNumber ctx_BadNumber ccx_BadNumber slx_BadNumber cex_BadNumber cedx_BadNumber cesx_BadNumber ccc_BadNumber ccd_BadNumber cvx_BadNumber ccs_BadNumber flx_BadNumber tfx_BadNumber nmx_BadPieces qx_BadPieces Nx_BadPieces bsx_BadPieces bmx_BadPieces snx_BadPieces sux_BadPieces abx_BadPieces cox_BadPieces ddx_BadPieces k0_BadPieces k1_BadPieces k2_BadPieces k3_BadPieces k5_BadPieces clx_BadPieces AI_BadPieces ocx_BadPieces odx_BadPieces kVx_BadPieces dcx_BadPieces pmx_BadPieces anx_BadPieces cda_BadPieces ctx_BadPieces ccx_BadPieces slx_BadPieces cex_BadPieces cedx_BadPieces cesx_BadPieces ccc_BadPieces ccd_BadPieces cvx_BadPieces ccs_BadPieces flx_BadPieces tfx_BadPieces nmx_BadRig qx_BadRig Nx_BadRig bsx_BadRig bmx_BadRig snx_BadRig sux_BadRig abx_BadRig cox_BadRig ddx_BadRig k0_BadRig k1_BadRig k2_BadRig k3_BadRig k5_BadRig clx_BadRig AI_BadRig ocx_BadRig odx_BadRig kVx_BadRig dcx_BadRig pmx_BadRig anx_BadRig cda_BadRig ctx_BadRig ccx_BadRig slx_BadRig cex_BadRig cedx_BadRig cesx_BadRig ccc_BadRig ccd_BadRig cvx_BadRig ccs_BadRig flx_BadRig tfx_BadRig nmx_BadTackle qx_BadTackle Nx_BadTackle bsx_BadTackle bmx_BadTackle snx_BadTackle sux_BadTackle abx_BadTackle cox_BadTackle ddx_BadTackle k0_BadTackle k1_BadTackle k2_BadTackle k3_BadTackle k5_BadTackle clx_BadTackle AI_BadTackle ocx_BadTackle odx_BadTackle kVx_BadTackle dcx_BadTackle pmx_BadTackle anx_BadTackle cda_BadTackle ctx_BadTackle ccx_BadTackle slx_BadTackle cex_BadTackle cedx_BadTackle cesx_BadTackle ccc_BadTackle ccd_BadTackle cvx_BadTackle ccs_BadTackle flx_BadTackle tfx_BadTackle nmx_BadText qx_BadText Nx_BadText bsx_BadText bmx_BadText snx_BadText sux_BadText abx_BadText cox_BadText ddx_BadText k0_BadText k1_BadText k2_BadText k3_BadText k5_BadText clx_BadText AI_BadText ocx_BadText odx_BadText kVx_BadText dcx_BadText pmx_BadText anx_BadText cda_BadText ctx_BadText ccx_BadText slx_BadText cex_BadText cedx_BadText cesx_BadText ccc_BadText ccd_BadText cvx_BadText ccs_BadText flx_BadText tfx_BadText nmx_NotHeld qx_NotHeld Nx_NotHeld bsx_NotHeld bmx_NotHeld snx_NotHeld sux_NotHeld abx_NotHeld cox_NotHeld ddx_NotHeld k0_NotHeld k1_NotHeld k2_NotHeld k3_NotHeld k5_NotHeld clx_NotHeld AI_NotHeld ocx_NotHeld odx_NotHeld kVx_NotHeld dcx_NotHeld pmx_NotHeld anx_NotHeld cda_NotHeld ctx_NotHeld ccx_NotHeld slx_NotHeld cex_NotHeld cedx_NotHeld cesx_NotHeld ccc_NotHeld ccd_NotHeld cvx_NotHeld ccs_NotHeld flx_NotHeld tfx_NotHeld nmx_NothingDone qx_NothingDone Nx_NothingDone bsx_NothingDone bmx_NothingDone snx_NothingDone sux_NothingDone abx_NothingDone cox_NothingDone ddx_NothingDone k0_NothingDone k1_NothingDone k2_NothingDone k3_NothingDone k5_NothingDone clx_NothingDone AI_NothingDone ocx_NothingDone odx_NothingDone kVx_NothingDone dcx_NothingDone pmx_NothingDone anx_NothingDone cda_NothingDone ctx_NothingDone ccx_NothingDone slx_NothingDone cex_NothingDone cedx_NothingDone cesx_NothingDone ccc_NothingDone ccd_NothingDone cvx_NothingDone ccs_NothingDone flx_NothingDone tfx_NothingDone nmx_UnknownMember qx_UnknownMember Nx_UnknownMember bsx_UnknownMember bmx_UnknownMember snx_UnknownMember sux_UnknownMember abx_UnknownMember cox_UnknownMember ddx_UnknownMember k0_UnknownMember k1_UnknownMember k2_UnknownMember k3_UnknownMember k5_UnknownMember clx_UnknownMember AI_UnknownMember ocx_UnknownMember odx_UnknownMember kVx_UnknownMember dcx_UnknownMember pmx_UnknownMember anx_UnknownMember cda_UnknownMember ctx_UnknownMember ccx_UnknownMember slx_UnknownMember cex_UnknownMember cedx_UnknownMember cesx_UnknownMember ccc_UnknownMember ccd_UnknownMember cvx_UnknownMember ccs_UnknownMember flx_UnknownMember tfx_UnknownMember nmx_UnknownPoint qx_UnknownPoint Nx_UnknownPoint bsx_UnknownPoint bmx_UnknownPoint snx_UnknownPoint sux_UnknownPoint abx_UnknownPoint cox_UnknownPoint ddx_UnknownPoint k0_UnknownPoint k1_UnknownPoint k2_UnknownPoint k3_UnknownPoint k5_UnknownPoint clx_UnknownPoint AI_UnknownPoint ocx_UnknownPoint odx_UnknownPoint kVx_UnknownPoint dcx_UnknownPoint pmx_UnknownPoint anx_UnknownPoint cda_UnknownPoint ctx_UnknownPoint ccx_UnknownPoint slx_UnknownPoint cex_UnknownPoint cedx_UnknownPoint cesx_UnknownPoint ccc_UnknownPoint ccd_UnknownPoint cvx_UnknownPoint ccs_UnknownPoint flx_UnknownPoint tfx_UnknownPoint A__law_taken oc__law_taken od__law_taken kV__law_taken dc__law_taken pm__law_taken an__law_taken cd__law_taken ct__law_taken sl__law_taken A__law_same oc__law_same od__law_same kV__law_same dc__law_same pm__law_same an__law_same cd__law_same ct__law_same sl__law_same A__law_refusal oc__law_refusal od__law_refusal kV__law_refusal dc__law_refusal pm__law_refusal an__law_refusal cd__law_refusal ct__law_refusal sl__law_refusal A__law_pick oc__law_pick od__law_pick kV__law_pick dc__law_pick pm__law_pick an__law_pick cd__law_pick ct__law_pick sl__law_pick A_law oc_law od_law kV_law dc_law pm_law an_law cd_law ct_law sl_law : _} {l : PySem.W.OpenLaw} {w : World} {K : PySem.W.Frag} {h : Heap} {mg : Str → Option Value} {fa : Addr} (X : K.In h) (G : h.Ns mainGlobals mg) (hfa : mg "law" = some (.ref fa))
    (z_ValueError : PySem.W.nsIn K mainGlobals "ValueError" = some none)
    (z_int : PySem.W.nsIn K mainGlobals "int" = some none)
    (z_isinstance : PySem.W.nsIn K mainGlobals "isinstance" = some none)
    (z_len : PySem.W.nsIn K mainGlobals "len" = some none)
    (z_repr : PySem.W.nsIn K mainGlobals "repr" = some none)
    (ns_super : PySem.W.nsIn K mainGlobals "super" = some none)
    (npx : PySem.W.nsIn K cStatics "thirdparty.any" = some none)
    (tpx : (l.prog.main.scope.names.lookup ("super" : Str)).isSome = false)
    (hnx : PySem.W.specialIn K (.builtin "object.__class__") "__get__" = some (some (.builtin "getset_descriptor.__get__")))
    (htx : PySem.W.takesIn K (.builtin "object.__class__") = some true)
    (gC_BadClaim : PySem.W.nsIn K mainGlobals "BadClaim" = some (some (.ref C_BadClaim)))
    (gC_BadLine : PySem.W.nsIn K mainGlobals "BadLine" = some (some (.ref C_BadLine)))
    (gC_BadLines : PySem.W.nsIn K mainGlobals "BadLines" = some (some (.ref C_BadLines)))
    (gC_BadNumber : PySem.W.nsIn K mainGlobals "BadNumber" = some (some (.ref C_BadNumber)))
    (gC_BadPieces : PySem.W.nsIn K mainGlobals "BadPieces" = some (some (.ref C_BadPieces)))
    (gC_BadRig : PySem.W.nsIn K mainGlobals "BadRig" = some (some (.ref C_BadRig)))
    (gC_BadTackle : PySem.W.nsIn K mainGlobals "BadTackle" = some (some (.ref C_BadTackle)))
    (gC_BadText : PySem.W.nsIn K mainGlobals "BadText" = some (some (.ref C_BadText)))
    (gC_LoftError : PySem.W.nsIn K mainGlobals "LoftError" = some (some (.ref C_LoftError)))
    (gC_NotHeld : PySem.W.nsIn K mainGlobals "NotHeld" = some (some (.ref C_NotHeld)))
    (gC_NothingDone : PySem.W.nsIn K mainGlobals "NothingDone" = some (some (.ref C_NothingDone)))
    (gC_UnknownMember : PySem.W.nsIn K mainGlobals "UnknownMember" = some (some (.ref C_UnknownMember)))
    (gC_UnknownPoint : PySem.W.nsIn K mainGlobals "UnknownPoint" = some (some (.ref C_UnknownPoint)))
    (lx_BadClaim : K.lookup C_BadClaim = some (excClassObj nmx_BadClaim qx_BadClaim C_BadClaim Nx_BadClaim bsx_BadClaim bmx_BadClaim true snx_BadClaim sux_BadClaim abx_BadClaim cox_BadClaim ddx_BadClaim k0_BadClaim k1_BadClaim k2_BadClaim k3_BadClaim k5_BadClaim "ValueError.__new__"))
    (rvx_BadClaim : PySem.HandSPX.refsVE bmx_BadClaim = true)
    (sax_BadClaim : PySem.W.findIn K (.ref C_BadClaim) "__setattr__" = some (some (.builtin "object.__setattr__")))
    (exx_BadClaim : PySem.W.subIn K (.ref C_BadClaim) (.type "BaseException") = some true)
    (tyx_BadClaim : PySem.W.typeIn K (.ref C_BadClaim) = some (.type "type"))
    (kcx_BadClaim : PySem.W.keepIn K (.ref C_BadClaim) = true)
    (cdx_BadClaim : PySem.W.clsIn K C_BadClaim = some clx_BadClaim)
    (mex_BadClaim : PySem.W.mroIn K C_BadClaim (.ref C_BadClaim) = some true)
    (upx_BadClaim : PySem.W.ks_superIn K C_BadClaim C_BadClaim "__init__" = some (some (.builtin "ValueError.__init__")))
    (vex_BadClaim : PySem.W.subIn K (.ref C_BadClaim) (.type "ValueError") = some true)
    (aix_BadClaim : PySem.W.findIn K (.ref C_BadClaim) "__init__" = some (some (.ref AI_BadClaim)))
    (lix_BadClaim : K.lookup AI_BadClaim = some ⟨ocx_BadClaim, odx_BadClaim, .func (PySem.W.ksFn "__init__" "BadClaim.__init__" (defArgs sI_BadClaim) (defBody sI_BadClaim) (defScope sI_BadClaim) .none kVx_BadClaim dcx_BadClaim pmx_BadClaim anx_BadClaim (.ref cda_BadClaim) ctx_BadClaim ccx_BadClaim), slx_BadClaim⟩)
    (eix_BadClaim : PySem.W.codeIn K (.ref cda_BadClaim) "BadClaim.__init__" = true)
    (lcx_BadClaim : K.lookup ccx_BadClaim = some ⟨cex_BadClaim, cedx_BadClaim, .cell (some (.ref C_BadClaim)), cesx_BadClaim⟩)
    (ldx_BadClaim : K.lookup cda_BadClaim = some ⟨ccc_BadClaim, ccd_BadClaim, .fields cvx_BadClaim, ccs_BadClaim⟩)
    (hvx_BadClaim : (cvx_BadClaim[2]? : Option Value) = some (.str flx_BadClaim tfx_BadClaim))
    (hfx_BadClaim : ((l.prog.main.file : Str) == flx_BadClaim) = true)
    (tix_BadClaim : PySem.W.typeIn K (.ref AI_BadClaim) = some (.type "function"))
    (nx_BadClaim_part : PySem.W.findIn K (.ref C_BadClaim) "part" = some none)
    (nx_BadClaim_place : PySem.W.findIn K (.ref C_BadClaim) "place" = some none)
    (nx_BadClaim_value : PySem.W.findIn K (.ref C_BadClaim) "value" = some none)
    (nx_BadClaim_name : PySem.W.findIn K (.ref C_BadClaim) "name" = some none)
    (nx_BadClaim_line : PySem.W.findIn K (.ref C_BadClaim) "line" = some none)
    (hgx_BadClaim : PySem.W.findIn K (.ref C_BadClaim) "__getattribute__" = some (some (.builtin "BaseException.__getattribute__")))
    (hkx_BadClaim : PySem.W.findIn K (.ref C_BadClaim) "__getattr__" = some none)
    (hdx_BadClaim : PySem.W.hasDictIn K C_BadClaim = true)
    (hax_BadClaim : PySem.W.findIn K (.ref C_BadClaim) "__class__" = some (some (.builtin "object.__class__")))
    (hmx_BadClaim : PySem.W.mroIn K C_BadClaim (.type "object") = some true)
    (ke_BadClaim_BadRig : PySem.W.kitOne K (.ref C_BadClaim) (.ref C_BadRig) = some (isE "BadClaim" "BadRig"))
    (ke_BadClaim_BadNumber : PySem.W.kitOne K (.ref C_BadClaim) (.ref C_BadNumber) = some (isE "BadClaim" "BadNumber"))
    (ke_BadClaim_BadLines : PySem.W.kitOne K (.ref C_BadClaim) (.ref C_BadLines) = some (isE "BadClaim" "BadLines"))
    (ke_BadClaim_UnknownPoint : PySem.W.kitOne K (.ref C_BadClaim) (.ref C_UnknownPoint) = some (isE "BadClaim" "UnknownPoint"))
    (ke_BadClaim_UnknownMember : PySem.W.kitOne K (.ref C_BadClaim) (.ref C_UnknownMember) = some (isE "BadClaim" "UnknownMember"))
    (ke_BadClaim_BadTackle : PySem.W.kitOne K (.ref C_BadClaim) (.ref C_BadTackle) = some (isE "BadClaim" "BadTackle"))
    (ke_BadClaim_BadPieces : PySem.W.kitOne K (.ref C_BadClaim) (.ref C_BadPieces) = some (isE "BadClaim" "BadPieces"))
    (ke_BadClaim_BadText : PySem.W.kitOne K (.ref C_BadClaim) (.ref C_BadText) = some (isE "BadClaim" "BadText"))
    (ke_BadClaim_BadLine : PySem.W.kitOne K (.ref C_BadClaim) (.ref C_BadLine) = some (isE "BadClaim" "BadLine"))
    (ke_BadClaim_NotHeld : PySem.W.kitOne K (.ref C_BadClaim) (.ref C_NotHeld) = some (isE "BadClaim" "NotHeld"))
    (ke_BadClaim_BadClaim : PySem.W.kitOne K (.ref C_BadClaim) (.ref C_BadClaim) = some (isE "BadClaim" "BadClaim"))
    (ke_BadClaim_NothingDone : PySem.W.kitOne K (.ref C_BadClaim) (.ref C_NothingDone) = some (isE "BadClaim" "NothingDone"))
    (kv_BadClaim : PySem.W.kitOne K (.ref C_BadClaim) (.type "ValueError") = some (isE "BadClaim" "ValueError"))
    (xm_BadClaim : PySem.W.exmOne K (.ref C_BadClaim) (.ref C_LoftError) = some true)
    (kle_BadClaim : PySem.W.kitOne K (.ref C_BadClaim) (.ref C_LoftError) = some true)
    (lx_BadLine : K.lookup C_BadLine = some (excClassObj nmx_BadLine qx_BadLine C_BadLine Nx_BadLine bsx_BadLine bmx_BadLine true snx_BadLine sux_BadLine abx_BadLine cox_BadLine ddx_BadLine k0_BadLine k1_BadLine k2_BadLine k3_BadLine k5_BadLine "ValueError.__new__"))
    (rvx_BadLine : PySem.HandSPX.refsVE bmx_BadLine = true)
    (sax_BadLine : PySem.W.findIn K (.ref C_BadLine) "__setattr__" = some (some (.builtin "object.__setattr__")))
    (exx_BadLine : PySem.W.subIn K (.ref C_BadLine) (.type "BaseException") = some true)
    (tyx_BadLine : PySem.W.typeIn K (.ref C_BadLine) = some (.type "type"))
    (kcx_BadLine : PySem.W.keepIn K (.ref C_BadLine) = true)
    (cdx_BadLine : PySem.W.clsIn K C_BadLine = some clx_BadLine)
    (mex_BadLine : PySem.W.mroIn K C_BadLine (.ref C_BadLine) = some true)
    (upx_BadLine : PySem.W.ks_superIn K C_BadLine C_BadLine "__init__" = some (some (.builtin "ValueError.__init__")))
    (vex_BadLine : PySem.W.subIn K (.ref C_BadLine) (.type "ValueError") = some true)
    (aix_BadLine : PySem.W.findIn K (.ref C_BadLine) "__init__" = some (some (.ref AI_BadLine)))
    (lix_BadLine : K.lookup AI_BadLine = some ⟨ocx_BadLine, odx_BadLine, .func (PySem.W.ksFn "__init__" "BadLine.__init__" (defArgs sI_BadLine) (defBody sI_BadLine) (defScope sI_BadLine) .none kVx_BadLine dcx_BadLine pmx_BadLine anx_BadLine (.ref cda_BadLine) ctx_BadLine ccx_BadLine), slx_BadLine⟩)
    (eix_BadLine : PySem.W.codeIn K (.ref cda_BadLine) "BadLine.__init__" = true)
    (lcx_BadLine : K.lookup ccx_BadLine = some ⟨cex_BadLine, cedx_BadLine, .cell (some (.ref C_BadLine)), cesx_BadLine⟩)
    (ldx_BadLine : K.lookup cda_BadLine = some ⟨ccc_BadLine, ccd_BadLine, .fields cvx_BadLine, ccs_BadLine⟩)
    (hvx_BadLine : (cvx_BadLine[2]? : Option Value) = some (.str flx_BadLine tfx_BadLine))
    (hfx_BadLine : ((l.prog.main.file : Str) == flx_BadLine) = true)
    (tix_BadLine : PySem.W.typeIn K (.ref AI_BadLine) = some (.type "function"))
    (nx_BadLine_part : PySem.W.findIn K (.ref C_BadLine) "part" = some none)
    (nx_BadLine_place : PySem.W.findIn K (.ref C_BadLine) "place" = some none)
    (nx_BadLine_value : PySem.W.findIn K (.ref C_BadLine) "value" = some none)
    (nx_BadLine_name : PySem.W.findIn K (.ref C_BadLine) "name" = some none)
    (nx_BadLine_line : PySem.W.findIn K (.ref C_BadLine) "line" = some none)
    (hgx_BadLine : PySem.W.findIn K (.ref C_BadLine) "__getattribute__" = some (some (.builtin "BaseException.__getattribute__")))
    (hkx_BadLine : PySem.W.findIn K (.ref C_BadLine) "__getattr__" = some none)
    (hdx_BadLine : PySem.W.hasDictIn K C_BadLine = true)
    (hax_BadLine : PySem.W.findIn K (.ref C_BadLine) "__class__" = some (some (.builtin "object.__class__")))
    (hmx_BadLine : PySem.W.mroIn K C_BadLine (.type "object") = some true)
    (ke_BadLine_BadRig : PySem.W.kitOne K (.ref C_BadLine) (.ref C_BadRig) = some (isE "BadLine" "BadRig"))
    (ke_BadLine_BadNumber : PySem.W.kitOne K (.ref C_BadLine) (.ref C_BadNumber) = some (isE "BadLine" "BadNumber"))
    (ke_BadLine_BadLines : PySem.W.kitOne K (.ref C_BadLine) (.ref C_BadLines) = some (isE "BadLine" "BadLines"))
    (ke_BadLine_UnknownPoint : PySem.W.kitOne K (.ref C_BadLine) (.ref C_UnknownPoint) = some (isE "BadLine" "UnknownPoint"))
    (ke_BadLine_UnknownMember : PySem.W.kitOne K (.ref C_BadLine) (.ref C_UnknownMember) = some (isE "BadLine" "UnknownMember"))
    (ke_BadLine_BadTackle : PySem.W.kitOne K (.ref C_BadLine) (.ref C_BadTackle) = some (isE "BadLine" "BadTackle"))
    (ke_BadLine_BadPieces : PySem.W.kitOne K (.ref C_BadLine) (.ref C_BadPieces) = some (isE "BadLine" "BadPieces"))
    (ke_BadLine_BadText : PySem.W.kitOne K (.ref C_BadLine) (.ref C_BadText) = some (isE "BadLine" "BadText"))
    (ke_BadLine_BadLine : PySem.W.kitOne K (.ref C_BadLine) (.ref C_BadLine) = some (isE "BadLine" "BadLine"))
    (ke_BadLine_NotHeld : PySem.W.kitOne K (.ref C_BadLine) (.ref C_NotHeld) = some (isE "BadLine" "NotHeld"))
    (ke_BadLine_BadClaim : PySem.W.kitOne K (.ref C_BadLine) (.ref C_BadClaim) = some (isE "BadLine" "BadClaim"))
    (ke_BadLine_NothingDone : PySem.W.kitOne K (.ref C_BadLine) (.ref C_NothingDone) = some (isE "BadLine" "NothingDone"))
    (kv_BadLine : PySem.W.kitOne K (.ref C_BadLine) (.type "ValueError") = some (isE "BadLine" "ValueError"))
    (xm_BadLine : PySem.W.exmOne K (.ref C_BadLine) (.ref C_LoftError) = some true)
    (kle_BadLine : PySem.W.kitOne K (.ref C_BadLine) (.ref C_LoftError) = some true)
    (lx_BadLines : K.lookup C_BadLines = some (excClassObj nmx_BadLines qx_BadLines C_BadLines Nx_BadLines bsx_BadLines bmx_BadLines true snx_BadLines sux_BadLines abx_BadLines cox_BadLines ddx_BadLines k0_BadLines k1_BadLines k2_BadLines k3_BadLines k5_BadLines "ValueError.__new__"))
    (rvx_BadLines : PySem.HandSPX.refsVE bmx_BadLines = true)
    (sax_BadLines : PySem.W.findIn K (.ref C_BadLines) "__setattr__" = some (some (.builtin "object.__setattr__")))
    (exx_BadLines : PySem.W.subIn K (.ref C_BadLines) (.type "BaseException") = some true)
    (tyx_BadLines : PySem.W.typeIn K (.ref C_BadLines) = some (.type "type"))
    (kcx_BadLines : PySem.W.keepIn K (.ref C_BadLines) = true)
    (cdx_BadLines : PySem.W.clsIn K C_BadLines = some clx_BadLines)
    (mex_BadLines : PySem.W.mroIn K C_BadLines (.ref C_BadLines) = some true)
    (upx_BadLines : PySem.W.ks_superIn K C_BadLines C_BadLines "__init__" = some (some (.builtin "ValueError.__init__")))
    (vex_BadLines : PySem.W.subIn K (.ref C_BadLines) (.type "ValueError") = some true)
    (aix_BadLines : PySem.W.findIn K (.ref C_BadLines) "__init__" = some (some (.ref AI_BadLines)))
    (lix_BadLines : K.lookup AI_BadLines = some ⟨ocx_BadLines, odx_BadLines, .func (PySem.W.ksFn "__init__" "BadLines.__init__" (defArgs sI_BadLines) (defBody sI_BadLines) (defScope sI_BadLines) .none kVx_BadLines dcx_BadLines pmx_BadLines anx_BadLines (.ref cda_BadLines) ctx_BadLines ccx_BadLines), slx_BadLines⟩)
    (eix_BadLines : PySem.W.codeIn K (.ref cda_BadLines) "BadLines.__init__" = true)
    (lcx_BadLines : K.lookup ccx_BadLines = some ⟨cex_BadLines, cedx_BadLines, .cell (some (.ref C_BadLines)), cesx_BadLines⟩)
    (ldx_BadLines : K.lookup cda_BadLines = some ⟨ccc_BadLines, ccd_BadLines, .fields cvx_BadLines, ccs_BadLines⟩)
    (hvx_BadLines : (cvx_BadLines[2]? : Option Value) = some (.str flx_BadLines tfx_BadLines))
    (hfx_BadLines : ((l.prog.main.file : Str) == flx_BadLines) = true)
    (tix_BadLines : PySem.W.typeIn K (.ref AI_BadLines) = some (.type "function"))
    (nx_BadLines_part : PySem.W.findIn K (.ref C_BadLines) "part" = some none)
    (nx_BadLines_place : PySem.W.findIn K (.ref C_BadLines) "place" = some none)
    (nx_BadLines_value : PySem.W.findIn K (.ref C_BadLines) "value" = some none)
    (nx_BadLines_name : PySem.W.findIn K (.ref C_BadLines) "name" = some none)
    (nx_BadLines_line : PySem.W.findIn K (.ref C_BadLines) "line" = some none)
    (hgx_BadLines : PySem.W.findIn K (.ref C_BadLines) "__getattribute__" = some (some (.builtin "BaseException.__getattribute__")))
    (hkx_BadLines : PySem.W.findIn K (.ref C_BadLines) "__getattr__" = some none)
    (hdx_BadLines : PySem.W.hasDictIn K C_BadLines = true)
    (hax_BadLines : PySem.W.findIn K (.ref C_BadLines) "__class__" = some (some (.builtin "object.__class__")))
    (hmx_BadLines : PySem.W.mroIn K C_BadLines (.type "object") = some true)
    (ke_BadLines_BadRig : PySem.W.kitOne K (.ref C_BadLines) (.ref C_BadRig) = some (isE "BadLines" "BadRig"))
    (ke_BadLines_BadNumber : PySem.W.kitOne K (.ref C_BadLines) (.ref C_BadNumber) = some (isE "BadLines" "BadNumber"))
    (ke_BadLines_BadLines : PySem.W.kitOne K (.ref C_BadLines) (.ref C_BadLines) = some (isE "BadLines" "BadLines"))
    (ke_BadLines_UnknownPoint : PySem.W.kitOne K (.ref C_BadLines) (.ref C_UnknownPoint) = some (isE "BadLines" "UnknownPoint"))
    (ke_BadLines_UnknownMember : PySem.W.kitOne K (.ref C_BadLines) (.ref C_UnknownMember) = some (isE "BadLines" "UnknownMember"))
    (ke_BadLines_BadTackle : PySem.W.kitOne K (.ref C_BadLines) (.ref C_BadTackle) = some (isE "BadLines" "BadTackle"))
    (ke_BadLines_BadPieces : PySem.W.kitOne K (.ref C_BadLines) (.ref C_BadPieces) = some (isE "BadLines" "BadPieces"))
    (ke_BadLines_BadText : PySem.W.kitOne K (.ref C_BadLines) (.ref C_BadText) = some (isE "BadLines" "BadText"))
    (ke_BadLines_BadLine : PySem.W.kitOne K (.ref C_BadLines) (.ref C_BadLine) = some (isE "BadLines" "BadLine"))
    (ke_BadLines_NotHeld : PySem.W.kitOne K (.ref C_BadLines) (.ref C_NotHeld) = some (isE "BadLines" "NotHeld"))
    (ke_BadLines_BadClaim : PySem.W.kitOne K (.ref C_BadLines) (.ref C_BadClaim) = some (isE "BadLines" "BadClaim"))
    (ke_BadLines_NothingDone : PySem.W.kitOne K (.ref C_BadLines) (.ref C_NothingDone) = some (isE "BadLines" "NothingDone"))
    (kv_BadLines : PySem.W.kitOne K (.ref C_BadLines) (.type "ValueError") = some (isE "BadLines" "ValueError"))
    (xm_BadLines : PySem.W.exmOne K (.ref C_BadLines) (.ref C_LoftError) = some true)
    (kle_BadLines : PySem.W.kitOne K (.ref C_BadLines) (.ref C_LoftError) = some true)
    (lx_BadNumber : K.lookup C_BadNumber = some (excClassObj nmx_BadNumber qx_BadNumber C_BadNumber Nx_BadNumber bsx_BadNumber bmx_BadNumber true snx_BadNumber sux_BadNumber abx_BadNumber cox_BadNumber ddx_BadNumber k0_BadNumber k1_BadNumber k2_BadNumber k3_BadNumber k5_BadNumber "ValueError.__new__"))
    (rvx_BadNumber : PySem.HandSPX.refsVE bmx_BadNumber = true)
    (sax_BadNumber : PySem.W.findIn K (.ref C_BadNumber) "__setattr__" = some (some (.builtin "object.__setattr__")))
    (exx_BadNumber : PySem.W.subIn K (.ref C_BadNumber) (.type "BaseException") = some true)
    (tyx_BadNumber : PySem.W.typeIn K (.ref C_BadNumber) = some (.type "type"))
    (kcx_BadNumber : PySem.W.keepIn K (.ref C_BadNumber) = true)
    (cdx_BadNumber : PySem.W.clsIn K C_BadNumber = some clx_BadNumber)
    (mex_BadNumber : PySem.W.mroIn K C_BadNumber (.ref C_BadNumber) = some true)
    (upx_BadNumber : PySem.W.ks_superIn K C_BadNumber C_BadNumber "__init__" = some (some (.builtin "ValueError.__init__")))
    (vex_BadNumber : PySem.W.subIn K (.ref C_BadNumber) (.type "ValueError") = some true)
    (aix_BadNumber : PySem.W.findIn K (.ref C_BadNumber) "__init__" = some (some (.ref AI_BadNumber)))
    (lix_BadNumber : K.lookup AI_BadNumber = some ⟨ocx_BadNumber, odx_BadNumber, .func (PySem.W.ksFn "__init__" "BadNumber.__init__" (defArgs sI_BadNumber) (defBody sI_BadNumber) (defScope sI_BadNumber) .none kVx_BadNumber dcx_BadNumber pmx_BadNumber anx_BadNumber (.ref cda_BadNumber) ctx_BadNumber ccx_BadNumber), slx_BadNumber⟩)
    (eix_BadNumber : PySem.W.codeIn K (.ref cda_BadNumber) "BadNumber.__init__" = true)
    (lcx_BadNumber : K.lookup ccx_BadNumber = some ⟨cex_BadNumber, cedx_BadNumber, .cell (some (.ref C_BadNumber)), cesx_BadNumber⟩)
    (ldx_BadNumber : K.lookup cda_BadNumber = some ⟨ccc_BadNumber, ccd_BadNumber, .fields cvx_BadNumber, ccs_BadNumber⟩)
    (hvx_BadNumber : (cvx_BadNumber[2]? : Option Value) = some (.str flx_BadNumber tfx_BadNumber))
    (hfx_BadNumber : ((l.prog.main.file : Str) == flx_BadNumber) = true)
    (tix_BadNumber : PySem.W.typeIn K (.ref AI_BadNumber) = some (.type "function"))
    (nx_BadNumber_part : PySem.W.findIn K (.ref C_BadNumber) "part" = some none)
    (nx_BadNumber_place : PySem.W.findIn K (.ref C_BadNumber) "place" = some none)
    (nx_BadNumber_value : PySem.W.findIn K (.ref C_BadNumber) "value" = some none)
    (nx_BadNumber_name : PySem.W.findIn K (.ref C_BadNumber) "name" = some none)
    (nx_BadNumber_line : PySem.W.findIn K (.ref C_BadNumber) "line" = some none)
    (hgx_BadNumber : PySem.W.findIn K (.ref C_BadNumber) "__getattribute__" = some (some (.builtin "BaseException.__getattribute__")))
    (hkx_BadNumber : PySem.W.findIn K (.ref C_BadNumber) "__getattr__" = some none)
    (hdx_BadNumber : PySem.W.hasDictIn K C_BadNumber = true)
    (hax_BadNumber : PySem.W.findIn K (.ref C_BadNumber) "__class__" = some (some (.builtin "object.__class__")))
    (hmx_BadNumber : PySem.W.mroIn K C_BadNumber (.type "object") = some true)
    (ke_BadNumber_BadRig : PySem.W.kitOne K (.ref C_BadNumber) (.ref C_BadRig) = some (isE "BadNumber" "BadRig"))
    (ke_BadNumber_BadNumber : PySem.W.kitOne K (.ref C_BadNumber) (.ref C_BadNumber) = some (isE "BadNumber" "BadNumber"))
    (ke_BadNumber_BadLines : PySem.W.kitOne K (.ref C_BadNumber) (.ref C_BadLines) = some (isE "BadNumber" "BadLines"))
    (ke_BadNumber_UnknownPoint : PySem.W.kitOne K (.ref C_BadNumber) (.ref C_UnknownPoint) = some (isE "BadNumber" "UnknownPoint"))
    (ke_BadNumber_UnknownMember : PySem.W.kitOne K (.ref C_BadNumber) (.ref C_UnknownMember) = some (isE "BadNumber" "UnknownMember"))
    (ke_BadNumber_BadTackle : PySem.W.kitOne K (.ref C_BadNumber) (.ref C_BadTackle) = some (isE "BadNumber" "BadTackle"))
    (ke_BadNumber_BadPieces : PySem.W.kitOne K (.ref C_BadNumber) (.ref C_BadPieces) = some (isE "BadNumber" "BadPieces"))
    (ke_BadNumber_BadText : PySem.W.kitOne K (.ref C_BadNumber) (.ref C_BadText) = some (isE "BadNumber" "BadText"))
    (ke_BadNumber_BadLine : PySem.W.kitOne K (.ref C_BadNumber) (.ref C_BadLine) = some (isE "BadNumber" "BadLine"))
    (ke_BadNumber_NotHeld : PySem.W.kitOne K (.ref C_BadNumber) (.ref C_NotHeld) = some (isE "BadNumber" "NotHeld"))
    (ke_BadNumber_BadClaim : PySem.W.kitOne K (.ref C_BadNumber) (.ref C_BadClaim) = some (isE "BadNumber" "BadClaim"))
    (ke_BadNumber_NothingDone : PySem.W.kitOne K (.ref C_BadNumber) (.ref C_NothingDone) = some (isE "BadNumber" "NothingDone"))
    (kv_BadNumber : PySem.W.kitOne K (.ref C_BadNumber) (.type "ValueError") = some (isE "BadNumber" "ValueError"))
    (xm_BadNumber : PySem.W.exmOne K (.ref C_BadNumber) (.ref C_LoftError) = some true)
    (kle_BadNumber : PySem.W.kitOne K (.ref C_BadNumber) (.ref C_LoftError) = some true)
    (lx_BadPieces : K.lookup C_BadPieces = some (excClassObj nmx_BadPieces qx_BadPieces C_BadPieces Nx_BadPieces bsx_BadPieces bmx_BadPieces true snx_BadPieces sux_BadPieces abx_BadPieces cox_BadPieces ddx_BadPieces k0_BadPieces k1_BadPieces k2_BadPieces k3_BadPieces k5_BadPieces "ValueError.__new__"))
    (rvx_BadPieces : PySem.HandSPX.refsVE bmx_BadPieces = true)
    (sax_BadPieces : PySem.W.findIn K (.ref C_BadPieces) "__setattr__" = some (some (.builtin "object.__setattr__")))
    (exx_BadPieces : PySem.W.subIn K (.ref C_BadPieces) (.type "BaseException") = some true)
    (tyx_BadPieces : PySem.W.typeIn K (.ref C_BadPieces) = some (.type "type"))
    (kcx_BadPieces : PySem.W.keepIn K (.ref C_BadPieces) = true)
    (cdx_BadPieces : PySem.W.clsIn K C_BadPieces = some clx_BadPieces)
    (mex_BadPieces : PySem.W.mroIn K C_BadPieces (.ref C_BadPieces) = some true)
    (upx_BadPieces : PySem.W.ks_superIn K C_BadPieces C_BadPieces "__init__" = some (some (.builtin "ValueError.__init__")))
    (vex_BadPieces : PySem.W.subIn K (.ref C_BadPieces) (.type "ValueError") = some true)
    (aix_BadPieces : PySem.W.findIn K (.ref C_BadPieces) "__init__" = some (some (.ref AI_BadPieces)))
    (lix_BadPieces : K.lookup AI_BadPieces = some ⟨ocx_BadPieces, odx_BadPieces, .func (PySem.W.ksFn "__init__" "BadPieces.__init__" (defArgs sI_BadPieces) (defBody sI_BadPieces) (defScope sI_BadPieces) .none kVx_BadPieces dcx_BadPieces pmx_BadPieces anx_BadPieces (.ref cda_BadPieces) ctx_BadPieces ccx_BadPieces), slx_BadPieces⟩)
    (eix_BadPieces : PySem.W.codeIn K (.ref cda_BadPieces) "BadPieces.__init__" = true)
    (lcx_BadPieces : K.lookup ccx_BadPieces = some ⟨cex_BadPieces, cedx_BadPieces, .cell (some (.ref C_BadPieces)), cesx_BadPieces⟩)
    (ldx_BadPieces : K.lookup cda_BadPieces = some ⟨ccc_BadPieces, ccd_BadPieces, .fields cvx_BadPieces, ccs_BadPieces⟩)
    (hvx_BadPieces : (cvx_BadPieces[2]? : Option Value) = some (.str flx_BadPieces tfx_BadPieces))
    (hfx_BadPieces : ((l.prog.main.file : Str) == flx_BadPieces) = true)
    (tix_BadPieces : PySem.W.typeIn K (.ref AI_BadPieces) = some (.type "function"))
    (nx_BadPieces_part : PySem.W.findIn K (.ref C_BadPieces) "part" = some none)
    (nx_BadPieces_place : PySem.W.findIn K (.ref C_BadPieces) "place" = some none)
    (nx_BadPieces_value : PySem.W.findIn K (.ref C_BadPieces) "value" = some none)
    (nx_BadPieces_name : PySem.W.findIn K (.ref C_BadPieces) "name" = some none)
    (nx_BadPieces_line : PySem.W.findIn K (.ref C_BadPieces) "line" = some none)
    (hgx_BadPieces : PySem.W.findIn K (.ref C_BadPieces) "__getattribute__" = some (some (.builtin "BaseException.__getattribute__")))
    (hkx_BadPieces : PySem.W.findIn K (.ref C_BadPieces) "__getattr__" = some none)
    (hdx_BadPieces : PySem.W.hasDictIn K C_BadPieces = true)
    (hax_BadPieces : PySem.W.findIn K (.ref C_BadPieces) "__class__" = some (some (.builtin "object.__class__")))
    (hmx_BadPieces : PySem.W.mroIn K C_BadPieces (.type "object") = some true)
    (ke_BadPieces_BadRig : PySem.W.kitOne K (.ref C_BadPieces) (.ref C_BadRig) = some (isE "BadPieces" "BadRig"))
    (ke_BadPieces_BadNumber : PySem.W.kitOne K (.ref C_BadPieces) (.ref C_BadNumber) = some (isE "BadPieces" "BadNumber"))
    (ke_BadPieces_BadLines : PySem.W.kitOne K (.ref C_BadPieces) (.ref C_BadLines) = some (isE "BadPieces" "BadLines"))
    (ke_BadPieces_UnknownPoint : PySem.W.kitOne K (.ref C_BadPieces) (.ref C_UnknownPoint) = some (isE "BadPieces" "UnknownPoint"))
    (ke_BadPieces_UnknownMember : PySem.W.kitOne K (.ref C_BadPieces) (.ref C_UnknownMember) = some (isE "BadPieces" "UnknownMember"))
    (ke_BadPieces_BadTackle : PySem.W.kitOne K (.ref C_BadPieces) (.ref C_BadTackle) = some (isE "BadPieces" "BadTackle"))
    (ke_BadPieces_BadPieces : PySem.W.kitOne K (.ref C_BadPieces) (.ref C_BadPieces) = some (isE "BadPieces" "BadPieces"))
    (ke_BadPieces_BadText : PySem.W.kitOne K (.ref C_BadPieces) (.ref C_BadText) = some (isE "BadPieces" "BadText"))
    (ke_BadPieces_BadLine : PySem.W.kitOne K (.ref C_BadPieces) (.ref C_BadLine) = some (isE "BadPieces" "BadLine"))
    (ke_BadPieces_NotHeld : PySem.W.kitOne K (.ref C_BadPieces) (.ref C_NotHeld) = some (isE "BadPieces" "NotHeld"))
    (ke_BadPieces_BadClaim : PySem.W.kitOne K (.ref C_BadPieces) (.ref C_BadClaim) = some (isE "BadPieces" "BadClaim"))
    (ke_BadPieces_NothingDone : PySem.W.kitOne K (.ref C_BadPieces) (.ref C_NothingDone) = some (isE "BadPieces" "NothingDone"))
    (kv_BadPieces : PySem.W.kitOne K (.ref C_BadPieces) (.type "ValueError") = some (isE "BadPieces" "ValueError"))
    (xm_BadPieces : PySem.W.exmOne K (.ref C_BadPieces) (.ref C_LoftError) = some true)
    (kle_BadPieces : PySem.W.kitOne K (.ref C_BadPieces) (.ref C_LoftError) = some true)
    (lx_BadRig : K.lookup C_BadRig = some (excClassObj nmx_BadRig qx_BadRig C_BadRig Nx_BadRig bsx_BadRig bmx_BadRig true snx_BadRig sux_BadRig abx_BadRig cox_BadRig ddx_BadRig k0_BadRig k1_BadRig k2_BadRig k3_BadRig k5_BadRig "ValueError.__new__"))
    (rvx_BadRig : PySem.HandSPX.refsVE bmx_BadRig = true)
    (sax_BadRig : PySem.W.findIn K (.ref C_BadRig) "__setattr__" = some (some (.builtin "object.__setattr__")))
    (exx_BadRig : PySem.W.subIn K (.ref C_BadRig) (.type "BaseException") = some true)
    (tyx_BadRig : PySem.W.typeIn K (.ref C_BadRig) = some (.type "type"))
    (kcx_BadRig : PySem.W.keepIn K (.ref C_BadRig) = true)
    (cdx_BadRig : PySem.W.clsIn K C_BadRig = some clx_BadRig)
    (mex_BadRig : PySem.W.mroIn K C_BadRig (.ref C_BadRig) = some true)
    (upx_BadRig : PySem.W.ks_superIn K C_BadRig C_BadRig "__init__" = some (some (.builtin "ValueError.__init__")))
    (vex_BadRig : PySem.W.subIn K (.ref C_BadRig) (.type "ValueError") = some true)
    (aix_BadRig : PySem.W.findIn K (.ref C_BadRig) "__init__" = some (some (.ref AI_BadRig)))
    (lix_BadRig : K.lookup AI_BadRig = some ⟨ocx_BadRig, odx_BadRig, .func (PySem.W.ksFn "__init__" "BadRig.__init__" (defArgs sI_BadRig) (defBody sI_BadRig) (defScope sI_BadRig) .none kVx_BadRig dcx_BadRig pmx_BadRig anx_BadRig (.ref cda_BadRig) ctx_BadRig ccx_BadRig), slx_BadRig⟩)
    (eix_BadRig : PySem.W.codeIn K (.ref cda_BadRig) "BadRig.__init__" = true)
    (lcx_BadRig : K.lookup ccx_BadRig = some ⟨cex_BadRig, cedx_BadRig, .cell (some (.ref C_BadRig)), cesx_BadRig⟩)
    (ldx_BadRig : K.lookup cda_BadRig = some ⟨ccc_BadRig, ccd_BadRig, .fields cvx_BadRig, ccs_BadRig⟩)
    (hvx_BadRig : (cvx_BadRig[2]? : Option Value) = some (.str flx_BadRig tfx_BadRig))
    (hfx_BadRig : ((l.prog.main.file : Str) == flx_BadRig) = true)
    (tix_BadRig : PySem.W.typeIn K (.ref AI_BadRig) = some (.type "function"))
    (nx_BadRig_part : PySem.W.findIn K (.ref C_BadRig) "part" = some none)
    (nx_BadRig_place : PySem.W.findIn K (.ref C_BadRig) "place" = some none)
    (nx_BadRig_value : PySem.W.findIn K (.ref C_BadRig) "value" = some none)
    (nx_BadRig_name : PySem.W.findIn K (.ref C_BadRig) "name" = some none)
    (nx_BadRig_line : PySem.W.findIn K (.ref C_BadRig) "line" = some none)
    (hgx_BadRig : PySem.W.findIn K (.ref C_BadRig) "__getattribute__" = some (some (.builtin "BaseException.__getattribute__")))
    (hkx_BadRig : PySem.W.findIn K (.ref C_BadRig) "__getattr__" = some none)
    (hdx_BadRig : PySem.W.hasDictIn K C_BadRig = true)
    (hax_BadRig : PySem.W.findIn K (.ref C_BadRig) "__class__" = some (some (.builtin "object.__class__")))
    (hmx_BadRig : PySem.W.mroIn K C_BadRig (.type "object") = some true)
    (ke_BadRig_BadRig : PySem.W.kitOne K (.ref C_BadRig) (.ref C_BadRig) = some (isE "BadRig" "BadRig"))
    (ke_BadRig_BadNumber : PySem.W.kitOne K (.ref C_BadRig) (.ref C_BadNumber) = some (isE "BadRig" "BadNumber"))
    (ke_BadRig_BadLines : PySem.W.kitOne K (.ref C_BadRig) (.ref C_BadLines) = some (isE "BadRig" "BadLines"))
    (ke_BadRig_UnknownPoint : PySem.W.kitOne K (.ref C_BadRig) (.ref C_UnknownPoint) = some (isE "BadRig" "UnknownPoint"))
    (ke_BadRig_UnknownMember : PySem.W.kitOne K (.ref C_BadRig) (.ref C_UnknownMember) = some (isE "BadRig" "UnknownMember"))
    (ke_BadRig_BadTackle : PySem.W.kitOne K (.ref C_BadRig) (.ref C_BadTackle) = some (isE "BadRig" "BadTackle"))
    (ke_BadRig_BadPieces : PySem.W.kitOne K (.ref C_BadRig) (.ref C_BadPieces) = some (isE "BadRig" "BadPieces"))
    (ke_BadRig_BadText : PySem.W.kitOne K (.ref C_BadRig) (.ref C_BadText) = some (isE "BadRig" "BadText"))
    (ke_BadRig_BadLine : PySem.W.kitOne K (.ref C_BadRig) (.ref C_BadLine) = some (isE "BadRig" "BadLine"))
    (ke_BadRig_NotHeld : PySem.W.kitOne K (.ref C_BadRig) (.ref C_NotHeld) = some (isE "BadRig" "NotHeld"))
    (ke_BadRig_BadClaim : PySem.W.kitOne K (.ref C_BadRig) (.ref C_BadClaim) = some (isE "BadRig" "BadClaim"))
    (ke_BadRig_NothingDone : PySem.W.kitOne K (.ref C_BadRig) (.ref C_NothingDone) = some (isE "BadRig" "NothingDone"))
    (kv_BadRig : PySem.W.kitOne K (.ref C_BadRig) (.type "ValueError") = some (isE "BadRig" "ValueError"))
    (xm_BadRig : PySem.W.exmOne K (.ref C_BadRig) (.ref C_LoftError) = some true)
    (kle_BadRig : PySem.W.kitOne K (.ref C_BadRig) (.ref C_LoftError) = some true)
    (lx_BadTackle : K.lookup C_BadTackle = some (excClassObj nmx_BadTackle qx_BadTackle C_BadTackle Nx_BadTackle bsx_BadTackle bmx_BadTackle true snx_BadTackle sux_BadTackle abx_BadTackle cox_BadTackle ddx_BadTackle k0_BadTackle k1_BadTackle k2_BadTackle k3_BadTackle k5_BadTackle "ValueError.__new__"))
    (rvx_BadTackle : PySem.HandSPX.refsVE bmx_BadTackle = true)
    (sax_BadTackle : PySem.W.findIn K (.ref C_BadTackle) "__setattr__" = some (some (.builtin "object.__setattr__")))
    (exx_BadTackle : PySem.W.subIn K (.ref C_BadTackle) (.type "BaseException") = some true)
    (tyx_BadTackle : PySem.W.typeIn K (.ref C_BadTackle) = some (.type "type"))
    (kcx_BadTackle : PySem.W.keepIn K (.ref C_BadTackle) = true)
    (cdx_BadTackle : PySem.W.clsIn K C_BadTackle = some clx_BadTackle)
    (mex_BadTackle : PySem.W.mroIn K C_BadTackle (.ref C_BadTackle) = some true)
    (upx_BadTackle : PySem.W.ks_superIn K C_BadTackle C_BadTackle "__init__" = some (some (.builtin "ValueError.__init__")))
    (vex_BadTackle : PySem.W.subIn K (.ref C_BadTackle) (.type "ValueError") = some true)
    (aix_BadTackle : PySem.W.findIn K (.ref C_BadTackle) "__init__" = some (some (.ref AI_BadTackle)))
    (lix_BadTackle : K.lookup AI_BadTackle = some ⟨ocx_BadTackle, odx_BadTackle, .func (PySem.W.ksFn "__init__" "BadTackle.__init__" (defArgs sI_BadTackle) (defBody sI_BadTackle) (defScope sI_BadTackle) .none kVx_BadTackle dcx_BadTackle pmx_BadTackle anx_BadTackle (.ref cda_BadTackle) ctx_BadTackle ccx_BadTackle), slx_BadTackle⟩)
    (eix_BadTackle : PySem.W.codeIn K (.ref cda_BadTackle) "BadTackle.__init__" = true)
    (lcx_BadTackle : K.lookup ccx_BadTackle = some ⟨cex_BadTackle, cedx_BadTackle, .cell (some (.ref C_BadTackle)), cesx_BadTackle⟩)
    (ldx_BadTackle : K.lookup cda_BadTackle = some ⟨ccc_BadTackle, ccd_BadTackle, .fields cvx_BadTackle, ccs_BadTackle⟩)
    (hvx_BadTackle : (cvx_BadTackle[2]? : Option Value) = some (.str flx_BadTackle tfx_BadTackle))
    (hfx_BadTackle : ((l.prog.main.file : Str) == flx_BadTackle) = true)
    (tix_BadTackle : PySem.W.typeIn K (.ref AI_BadTackle) = some (.type "function"))
    (nx_BadTackle_part : PySem.W.findIn K (.ref C_BadTackle) "part" = some none)
    (nx_BadTackle_place : PySem.W.findIn K (.ref C_BadTackle) "place" = some none)
    (nx_BadTackle_value : PySem.W.findIn K (.ref C_BadTackle) "value" = some none)
    (nx_BadTackle_name : PySem.W.findIn K (.ref C_BadTackle) "name" = some none)
    (nx_BadTackle_line : PySem.W.findIn K (.ref C_BadTackle) "line" = some none)
    (hgx_BadTackle : PySem.W.findIn K (.ref C_BadTackle) "__getattribute__" = some (some (.builtin "BaseException.__getattribute__")))
    (hkx_BadTackle : PySem.W.findIn K (.ref C_BadTackle) "__getattr__" = some none)
    (hdx_BadTackle : PySem.W.hasDictIn K C_BadTackle = true)
    (hax_BadTackle : PySem.W.findIn K (.ref C_BadTackle) "__class__" = some (some (.builtin "object.__class__")))
    (hmx_BadTackle : PySem.W.mroIn K C_BadTackle (.type "object") = some true)
    (ke_BadTackle_BadRig : PySem.W.kitOne K (.ref C_BadTackle) (.ref C_BadRig) = some (isE "BadTackle" "BadRig"))
    (ke_BadTackle_BadNumber : PySem.W.kitOne K (.ref C_BadTackle) (.ref C_BadNumber) = some (isE "BadTackle" "BadNumber"))
    (ke_BadTackle_BadLines : PySem.W.kitOne K (.ref C_BadTackle) (.ref C_BadLines) = some (isE "BadTackle" "BadLines"))
    (ke_BadTackle_UnknownPoint : PySem.W.kitOne K (.ref C_BadTackle) (.ref C_UnknownPoint) = some (isE "BadTackle" "UnknownPoint"))
    (ke_BadTackle_UnknownMember : PySem.W.kitOne K (.ref C_BadTackle) (.ref C_UnknownMember) = some (isE "BadTackle" "UnknownMember"))
    (ke_BadTackle_BadTackle : PySem.W.kitOne K (.ref C_BadTackle) (.ref C_BadTackle) = some (isE "BadTackle" "BadTackle"))
    (ke_BadTackle_BadPieces : PySem.W.kitOne K (.ref C_BadTackle) (.ref C_BadPieces) = some (isE "BadTackle" "BadPieces"))
    (ke_BadTackle_BadText : PySem.W.kitOne K (.ref C_BadTackle) (.ref C_BadText) = some (isE "BadTackle" "BadText"))
    (ke_BadTackle_BadLine : PySem.W.kitOne K (.ref C_BadTackle) (.ref C_BadLine) = some (isE "BadTackle" "BadLine"))
    (ke_BadTackle_NotHeld : PySem.W.kitOne K (.ref C_BadTackle) (.ref C_NotHeld) = some (isE "BadTackle" "NotHeld"))
    (ke_BadTackle_BadClaim : PySem.W.kitOne K (.ref C_BadTackle) (.ref C_BadClaim) = some (isE "BadTackle" "BadClaim"))
    (ke_BadTackle_NothingDone : PySem.W.kitOne K (.ref C_BadTackle) (.ref C_NothingDone) = some (isE "BadTackle" "NothingDone"))
    (kv_BadTackle : PySem.W.kitOne K (.ref C_BadTackle) (.type "ValueError") = some (isE "BadTackle" "ValueError"))
    (xm_BadTackle : PySem.W.exmOne K (.ref C_BadTackle) (.ref C_LoftError) = some true)
    (kle_BadTackle : PySem.W.kitOne K (.ref C_BadTackle) (.ref C_LoftError) = some true)
    (lx_BadText : K.lookup C_BadText = some (excClassObj nmx_BadText qx_BadText C_BadText Nx_BadText bsx_BadText bmx_BadText true snx_BadText sux_BadText abx_BadText cox_BadText ddx_BadText k0_BadText k1_BadText k2_BadText k3_BadText k5_BadText "ValueError.__new__"))
    (rvx_BadText : PySem.HandSPX.refsVE bmx_BadText = true)
    (sax_BadText : PySem.W.findIn K (.ref C_BadText) "__setattr__" = some (some (.builtin "object.__setattr__")))
    (exx_BadText : PySem.W.subIn K (.ref C_BadText) (.type "BaseException") = some true)
    (tyx_BadText : PySem.W.typeIn K (.ref C_BadText) = some (.type "type"))
    (kcx_BadText : PySem.W.keepIn K (.ref C_BadText) = true)
    (cdx_BadText : PySem.W.clsIn K C_BadText = some clx_BadText)
    (mex_BadText : PySem.W.mroIn K C_BadText (.ref C_BadText) = some true)
    (upx_BadText : PySem.W.ks_superIn K C_BadText C_BadText "__init__" = some (some (.builtin "ValueError.__init__")))
    (vex_BadText : PySem.W.subIn K (.ref C_BadText) (.type "ValueError") = some true)
    (aix_BadText : PySem.W.findIn K (.ref C_BadText) "__init__" = some (some (.ref AI_BadText)))
    (lix_BadText : K.lookup AI_BadText = some ⟨ocx_BadText, odx_BadText, .func (PySem.W.ksFn "__init__" "BadText.__init__" (defArgs sI_BadText) (defBody sI_BadText) (defScope sI_BadText) .none kVx_BadText dcx_BadText pmx_BadText anx_BadText (.ref cda_BadText) ctx_BadText ccx_BadText), slx_BadText⟩)
    (eix_BadText : PySem.W.codeIn K (.ref cda_BadText) "BadText.__init__" = true)
    (lcx_BadText : K.lookup ccx_BadText = some ⟨cex_BadText, cedx_BadText, .cell (some (.ref C_BadText)), cesx_BadText⟩)
    (ldx_BadText : K.lookup cda_BadText = some ⟨ccc_BadText, ccd_BadText, .fields cvx_BadText, ccs_BadText⟩)
    (hvx_BadText : (cvx_BadText[2]? : Option Value) = some (.str flx_BadText tfx_BadText))
    (hfx_BadText : ((l.prog.main.file : Str) == flx_BadText) = true)
    (tix_BadText : PySem.W.typeIn K (.ref AI_BadText) = some (.type "function"))
    (nx_BadText_part : PySem.W.findIn K (.ref C_BadText) "part" = some none)
    (nx_BadText_place : PySem.W.findIn K (.ref C_BadText) "place" = some none)
    (nx_BadText_value : PySem.W.findIn K (.ref C_BadText) "value" = some none)
    (nx_BadText_name : PySem.W.findIn K (.ref C_BadText) "name" = some none)
    (nx_BadText_line : PySem.W.findIn K (.ref C_BadText) "line" = some none)
    (hgx_BadText : PySem.W.findIn K (.ref C_BadText) "__getattribute__" = some (some (.builtin "BaseException.__getattribute__")))
    (hkx_BadText : PySem.W.findIn K (.ref C_BadText) "__getattr__" = some none)
    (hdx_BadText : PySem.W.hasDictIn K C_BadText = true)
    (hax_BadText : PySem.W.findIn K (.ref C_BadText) "__class__" = some (some (.builtin "object.__class__")))
    (hmx_BadText : PySem.W.mroIn K C_BadText (.type "object") = some true)
    (ke_BadText_BadRig : PySem.W.kitOne K (.ref C_BadText) (.ref C_BadRig) = some (isE "BadText" "BadRig"))
    (ke_BadText_BadNumber : PySem.W.kitOne K (.ref C_BadText) (.ref C_BadNumber) = some (isE "BadText" "BadNumber"))
    (ke_BadText_BadLines : PySem.W.kitOne K (.ref C_BadText) (.ref C_BadLines) = some (isE "BadText" "BadLines"))
    (ke_BadText_UnknownPoint : PySem.W.kitOne K (.ref C_BadText) (.ref C_UnknownPoint) = some (isE "BadText" "UnknownPoint"))
    (ke_BadText_UnknownMember : PySem.W.kitOne K (.ref C_BadText) (.ref C_UnknownMember) = some (isE "BadText" "UnknownMember"))
    (ke_BadText_BadTackle : PySem.W.kitOne K (.ref C_BadText) (.ref C_BadTackle) = some (isE "BadText" "BadTackle"))
    (ke_BadText_BadPieces : PySem.W.kitOne K (.ref C_BadText) (.ref C_BadPieces) = some (isE "BadText" "BadPieces"))
    (ke_BadText_BadText : PySem.W.kitOne K (.ref C_BadText) (.ref C_BadText) = some (isE "BadText" "BadText"))
    (ke_BadText_BadLine : PySem.W.kitOne K (.ref C_BadText) (.ref C_BadLine) = some (isE "BadText" "BadLine"))
    (ke_BadText_NotHeld : PySem.W.kitOne K (.ref C_BadText) (.ref C_NotHeld) = some (isE "BadText" "NotHeld"))
    (ke_BadText_BadClaim : PySem.W.kitOne K (.ref C_BadText) (.ref C_BadClaim) = some (isE "BadText" "BadClaim"))
    (ke_BadText_NothingDone : PySem.W.kitOne K (.ref C_BadText) (.ref C_NothingDone) = some (isE "BadText" "NothingDone"))
    (kv_BadText : PySem.W.kitOne K (.ref C_BadText) (.type "ValueError") = some (isE "BadText" "ValueError"))
    (xm_BadText : PySem.W.exmOne K (.ref C_BadText) (.ref C_LoftError) = some true)
    (kle_BadText : PySem.W.kitOne K (.ref C_BadText) (.ref C_LoftError) = some true)
    (lx_NotHeld : K.lookup C_NotHeld = some (excClassObj nmx_NotHeld qx_NotHeld C_NotHeld Nx_NotHeld bsx_NotHeld bmx_NotHeld true snx_NotHeld sux_NotHeld abx_NotHeld cox_NotHeld ddx_NotHeld k0_NotHeld k1_NotHeld k2_NotHeld k3_NotHeld k5_NotHeld "ValueError.__new__"))
    (rvx_NotHeld : PySem.HandSPX.refsVE bmx_NotHeld = true)
    (sax_NotHeld : PySem.W.findIn K (.ref C_NotHeld) "__setattr__" = some (some (.builtin "object.__setattr__")))
    (exx_NotHeld : PySem.W.subIn K (.ref C_NotHeld) (.type "BaseException") = some true)
    (tyx_NotHeld : PySem.W.typeIn K (.ref C_NotHeld) = some (.type "type"))
    (kcx_NotHeld : PySem.W.keepIn K (.ref C_NotHeld) = true)
    (cdx_NotHeld : PySem.W.clsIn K C_NotHeld = some clx_NotHeld)
    (mex_NotHeld : PySem.W.mroIn K C_NotHeld (.ref C_NotHeld) = some true)
    (upx_NotHeld : PySem.W.ks_superIn K C_NotHeld C_NotHeld "__init__" = some (some (.builtin "ValueError.__init__")))
    (vex_NotHeld : PySem.W.subIn K (.ref C_NotHeld) (.type "ValueError") = some true)
    (aix_NotHeld : PySem.W.findIn K (.ref C_NotHeld) "__init__" = some (some (.ref AI_NotHeld)))
    (lix_NotHeld : K.lookup AI_NotHeld = some ⟨ocx_NotHeld, odx_NotHeld, .func (PySem.W.ksFn "__init__" "NotHeld.__init__" (defArgs sI_NotHeld) (defBody sI_NotHeld) (defScope sI_NotHeld) .none kVx_NotHeld dcx_NotHeld pmx_NotHeld anx_NotHeld (.ref cda_NotHeld) ctx_NotHeld ccx_NotHeld), slx_NotHeld⟩)
    (eix_NotHeld : PySem.W.codeIn K (.ref cda_NotHeld) "NotHeld.__init__" = true)
    (lcx_NotHeld : K.lookup ccx_NotHeld = some ⟨cex_NotHeld, cedx_NotHeld, .cell (some (.ref C_NotHeld)), cesx_NotHeld⟩)
    (ldx_NotHeld : K.lookup cda_NotHeld = some ⟨ccc_NotHeld, ccd_NotHeld, .fields cvx_NotHeld, ccs_NotHeld⟩)
    (hvx_NotHeld : (cvx_NotHeld[2]? : Option Value) = some (.str flx_NotHeld tfx_NotHeld))
    (hfx_NotHeld : ((l.prog.main.file : Str) == flx_NotHeld) = true)
    (tix_NotHeld : PySem.W.typeIn K (.ref AI_NotHeld) = some (.type "function"))
    (nx_NotHeld_part : PySem.W.findIn K (.ref C_NotHeld) "part" = some none)
    (nx_NotHeld_place : PySem.W.findIn K (.ref C_NotHeld) "place" = some none)
    (nx_NotHeld_value : PySem.W.findIn K (.ref C_NotHeld) "value" = some none)
    (nx_NotHeld_name : PySem.W.findIn K (.ref C_NotHeld) "name" = some none)
    (nx_NotHeld_line : PySem.W.findIn K (.ref C_NotHeld) "line" = some none)
    (hgx_NotHeld : PySem.W.findIn K (.ref C_NotHeld) "__getattribute__" = some (some (.builtin "BaseException.__getattribute__")))
    (hkx_NotHeld : PySem.W.findIn K (.ref C_NotHeld) "__getattr__" = some none)
    (hdx_NotHeld : PySem.W.hasDictIn K C_NotHeld = true)
    (hax_NotHeld : PySem.W.findIn K (.ref C_NotHeld) "__class__" = some (some (.builtin "object.__class__")))
    (hmx_NotHeld : PySem.W.mroIn K C_NotHeld (.type "object") = some true)
    (ke_NotHeld_BadRig : PySem.W.kitOne K (.ref C_NotHeld) (.ref C_BadRig) = some (isE "NotHeld" "BadRig"))
    (ke_NotHeld_BadNumber : PySem.W.kitOne K (.ref C_NotHeld) (.ref C_BadNumber) = some (isE "NotHeld" "BadNumber"))
    (ke_NotHeld_BadLines : PySem.W.kitOne K (.ref C_NotHeld) (.ref C_BadLines) = some (isE "NotHeld" "BadLines"))
    (ke_NotHeld_UnknownPoint : PySem.W.kitOne K (.ref C_NotHeld) (.ref C_UnknownPoint) = some (isE "NotHeld" "UnknownPoint"))
    (ke_NotHeld_UnknownMember : PySem.W.kitOne K (.ref C_NotHeld) (.ref C_UnknownMember) = some (isE "NotHeld" "UnknownMember"))
    (ke_NotHeld_BadTackle : PySem.W.kitOne K (.ref C_NotHeld) (.ref C_BadTackle) = some (isE "NotHeld" "BadTackle"))
    (ke_NotHeld_BadPieces : PySem.W.kitOne K (.ref C_NotHeld) (.ref C_BadPieces) = some (isE "NotHeld" "BadPieces"))
    (ke_NotHeld_BadText : PySem.W.kitOne K (.ref C_NotHeld) (.ref C_BadText) = some (isE "NotHeld" "BadText"))
    (ke_NotHeld_BadLine : PySem.W.kitOne K (.ref C_NotHeld) (.ref C_BadLine) = some (isE "NotHeld" "BadLine"))
    (ke_NotHeld_NotHeld : PySem.W.kitOne K (.ref C_NotHeld) (.ref C_NotHeld) = some (isE "NotHeld" "NotHeld"))
    (ke_NotHeld_BadClaim : PySem.W.kitOne K (.ref C_NotHeld) (.ref C_BadClaim) = some (isE "NotHeld" "BadClaim"))
    (ke_NotHeld_NothingDone : PySem.W.kitOne K (.ref C_NotHeld) (.ref C_NothingDone) = some (isE "NotHeld" "NothingDone"))
    (kv_NotHeld : PySem.W.kitOne K (.ref C_NotHeld) (.type "ValueError") = some (isE "NotHeld" "ValueError"))
    (xm_NotHeld : PySem.W.exmOne K (.ref C_NotHeld) (.ref C_LoftError) = some true)
    (kle_NotHeld : PySem.W.kitOne K (.ref C_NotHeld) (.ref C_LoftError) = some true)
    (lx_NothingDone : K.lookup C_NothingDone = some (excClassObj nmx_NothingDone qx_NothingDone C_NothingDone Nx_NothingDone bsx_NothingDone bmx_NothingDone true snx_NothingDone sux_NothingDone abx_NothingDone cox_NothingDone ddx_NothingDone k0_NothingDone k1_NothingDone k2_NothingDone k3_NothingDone k5_NothingDone "ValueError.__new__"))
    (rvx_NothingDone : PySem.HandSPX.refsVE bmx_NothingDone = true)
    (sax_NothingDone : PySem.W.findIn K (.ref C_NothingDone) "__setattr__" = some (some (.builtin "object.__setattr__")))
    (exx_NothingDone : PySem.W.subIn K (.ref C_NothingDone) (.type "BaseException") = some true)
    (tyx_NothingDone : PySem.W.typeIn K (.ref C_NothingDone) = some (.type "type"))
    (kcx_NothingDone : PySem.W.keepIn K (.ref C_NothingDone) = true)
    (cdx_NothingDone : PySem.W.clsIn K C_NothingDone = some clx_NothingDone)
    (mex_NothingDone : PySem.W.mroIn K C_NothingDone (.ref C_NothingDone) = some true)
    (upx_NothingDone : PySem.W.ks_superIn K C_NothingDone C_NothingDone "__init__" = some (some (.builtin "ValueError.__init__")))
    (vex_NothingDone : PySem.W.subIn K (.ref C_NothingDone) (.type "ValueError") = some true)
    (aix_NothingDone : PySem.W.findIn K (.ref C_NothingDone) "__init__" = some (some (.ref AI_NothingDone)))
    (lix_NothingDone : K.lookup AI_NothingDone = some ⟨ocx_NothingDone, odx_NothingDone, .func (PySem.W.ksFn "__init__" "NothingDone.__init__" (defArgs sI_NothingDone) (defBody sI_NothingDone) (defScope sI_NothingDone) .none kVx_NothingDone dcx_NothingDone pmx_NothingDone anx_NothingDone (.ref cda_NothingDone) ctx_NothingDone ccx_NothingDone), slx_NothingDone⟩)
    (eix_NothingDone : PySem.W.codeIn K (.ref cda_NothingDone) "NothingDone.__init__" = true)
    (lcx_NothingDone : K.lookup ccx_NothingDone = some ⟨cex_NothingDone, cedx_NothingDone, .cell (some (.ref C_NothingDone)), cesx_NothingDone⟩)
    (ldx_NothingDone : K.lookup cda_NothingDone = some ⟨ccc_NothingDone, ccd_NothingDone, .fields cvx_NothingDone, ccs_NothingDone⟩)
    (hvx_NothingDone : (cvx_NothingDone[2]? : Option Value) = some (.str flx_NothingDone tfx_NothingDone))
    (hfx_NothingDone : ((l.prog.main.file : Str) == flx_NothingDone) = true)
    (tix_NothingDone : PySem.W.typeIn K (.ref AI_NothingDone) = some (.type "function"))
    (nx_NothingDone_part : PySem.W.findIn K (.ref C_NothingDone) "part" = some none)
    (nx_NothingDone_place : PySem.W.findIn K (.ref C_NothingDone) "place" = some none)
    (nx_NothingDone_value : PySem.W.findIn K (.ref C_NothingDone) "value" = some none)
    (nx_NothingDone_name : PySem.W.findIn K (.ref C_NothingDone) "name" = some none)
    (nx_NothingDone_line : PySem.W.findIn K (.ref C_NothingDone) "line" = some none)
    (hgx_NothingDone : PySem.W.findIn K (.ref C_NothingDone) "__getattribute__" = some (some (.builtin "BaseException.__getattribute__")))
    (hkx_NothingDone : PySem.W.findIn K (.ref C_NothingDone) "__getattr__" = some none)
    (hdx_NothingDone : PySem.W.hasDictIn K C_NothingDone = true)
    (hax_NothingDone : PySem.W.findIn K (.ref C_NothingDone) "__class__" = some (some (.builtin "object.__class__")))
    (hmx_NothingDone : PySem.W.mroIn K C_NothingDone (.type "object") = some true)
    (ke_NothingDone_BadRig : PySem.W.kitOne K (.ref C_NothingDone) (.ref C_BadRig) = some (isE "NothingDone" "BadRig"))
    (ke_NothingDone_BadNumber : PySem.W.kitOne K (.ref C_NothingDone) (.ref C_BadNumber) = some (isE "NothingDone" "BadNumber"))
    (ke_NothingDone_BadLines : PySem.W.kitOne K (.ref C_NothingDone) (.ref C_BadLines) = some (isE "NothingDone" "BadLines"))
    (ke_NothingDone_UnknownPoint : PySem.W.kitOne K (.ref C_NothingDone) (.ref C_UnknownPoint) = some (isE "NothingDone" "UnknownPoint"))
    (ke_NothingDone_UnknownMember : PySem.W.kitOne K (.ref C_NothingDone) (.ref C_UnknownMember) = some (isE "NothingDone" "UnknownMember"))
    (ke_NothingDone_BadTackle : PySem.W.kitOne K (.ref C_NothingDone) (.ref C_BadTackle) = some (isE "NothingDone" "BadTackle"))
    (ke_NothingDone_BadPieces : PySem.W.kitOne K (.ref C_NothingDone) (.ref C_BadPieces) = some (isE "NothingDone" "BadPieces"))
    (ke_NothingDone_BadText : PySem.W.kitOne K (.ref C_NothingDone) (.ref C_BadText) = some (isE "NothingDone" "BadText"))
    (ke_NothingDone_BadLine : PySem.W.kitOne K (.ref C_NothingDone) (.ref C_BadLine) = some (isE "NothingDone" "BadLine"))
    (ke_NothingDone_NotHeld : PySem.W.kitOne K (.ref C_NothingDone) (.ref C_NotHeld) = some (isE "NothingDone" "NotHeld"))
    (ke_NothingDone_BadClaim : PySem.W.kitOne K (.ref C_NothingDone) (.ref C_BadClaim) = some (isE "NothingDone" "BadClaim"))
    (ke_NothingDone_NothingDone : PySem.W.kitOne K (.ref C_NothingDone) (.ref C_NothingDone) = some (isE "NothingDone" "NothingDone"))
    (kv_NothingDone : PySem.W.kitOne K (.ref C_NothingDone) (.type "ValueError") = some (isE "NothingDone" "ValueError"))
    (xm_NothingDone : PySem.W.exmOne K (.ref C_NothingDone) (.ref C_LoftError) = some true)
    (kle_NothingDone : PySem.W.kitOne K (.ref C_NothingDone) (.ref C_LoftError) = some true)
    (lx_UnknownMember : K.lookup C_UnknownMember = some (excClassObj nmx_UnknownMember qx_UnknownMember C_UnknownMember Nx_UnknownMember bsx_UnknownMember bmx_UnknownMember true snx_UnknownMember sux_UnknownMember abx_UnknownMember cox_UnknownMember ddx_UnknownMember k0_UnknownMember k1_UnknownMember k2_UnknownMember k3_UnknownMember k5_UnknownMember "ValueError.__new__"))
    (rvx_UnknownMember : PySem.HandSPX.refsVE bmx_UnknownMember = true)
    (sax_UnknownMember : PySem.W.findIn K (.ref C_UnknownMember) "__setattr__" = some (some (.builtin "object.__setattr__")))
    (exx_UnknownMember : PySem.W.subIn K (.ref C_UnknownMember) (.type "BaseException") = some true)
    (tyx_UnknownMember : PySem.W.typeIn K (.ref C_UnknownMember) = some (.type "type"))
    (kcx_UnknownMember : PySem.W.keepIn K (.ref C_UnknownMember) = true)
    (cdx_UnknownMember : PySem.W.clsIn K C_UnknownMember = some clx_UnknownMember)
    (mex_UnknownMember : PySem.W.mroIn K C_UnknownMember (.ref C_UnknownMember) = some true)
    (upx_UnknownMember : PySem.W.ks_superIn K C_UnknownMember C_UnknownMember "__init__" = some (some (.builtin "ValueError.__init__")))
    (vex_UnknownMember : PySem.W.subIn K (.ref C_UnknownMember) (.type "ValueError") = some true)
    (aix_UnknownMember : PySem.W.findIn K (.ref C_UnknownMember) "__init__" = some (some (.ref AI_UnknownMember)))
    (lix_UnknownMember : K.lookup AI_UnknownMember = some ⟨ocx_UnknownMember, odx_UnknownMember, .func (PySem.W.ksFn "__init__" "UnknownMember.__init__" (defArgs sI_UnknownMember) (defBody sI_UnknownMember) (defScope sI_UnknownMember) .none kVx_UnknownMember dcx_UnknownMember pmx_UnknownMember anx_UnknownMember (.ref cda_UnknownMember) ctx_UnknownMember ccx_UnknownMember), slx_UnknownMember⟩)
    (eix_UnknownMember : PySem.W.codeIn K (.ref cda_UnknownMember) "UnknownMember.__init__" = true)
    (lcx_UnknownMember : K.lookup ccx_UnknownMember = some ⟨cex_UnknownMember, cedx_UnknownMember, .cell (some (.ref C_UnknownMember)), cesx_UnknownMember⟩)
    (ldx_UnknownMember : K.lookup cda_UnknownMember = some ⟨ccc_UnknownMember, ccd_UnknownMember, .fields cvx_UnknownMember, ccs_UnknownMember⟩)
    (hvx_UnknownMember : (cvx_UnknownMember[2]? : Option Value) = some (.str flx_UnknownMember tfx_UnknownMember))
    (hfx_UnknownMember : ((l.prog.main.file : Str) == flx_UnknownMember) = true)
    (tix_UnknownMember : PySem.W.typeIn K (.ref AI_UnknownMember) = some (.type "function"))
    (nx_UnknownMember_part : PySem.W.findIn K (.ref C_UnknownMember) "part" = some none)
    (nx_UnknownMember_place : PySem.W.findIn K (.ref C_UnknownMember) "place" = some none)
    (nx_UnknownMember_value : PySem.W.findIn K (.ref C_UnknownMember) "value" = some none)
    (nx_UnknownMember_name : PySem.W.findIn K (.ref C_UnknownMember) "name" = some none)
    (nx_UnknownMember_line : PySem.W.findIn K (.ref C_UnknownMember) "line" = some none)
    (hgx_UnknownMember : PySem.W.findIn K (.ref C_UnknownMember) "__getattribute__" = some (some (.builtin "BaseException.__getattribute__")))
    (hkx_UnknownMember : PySem.W.findIn K (.ref C_UnknownMember) "__getattr__" = some none)
    (hdx_UnknownMember : PySem.W.hasDictIn K C_UnknownMember = true)
    (hax_UnknownMember : PySem.W.findIn K (.ref C_UnknownMember) "__class__" = some (some (.builtin "object.__class__")))
    (hmx_UnknownMember : PySem.W.mroIn K C_UnknownMember (.type "object") = some true)
    (ke_UnknownMember_BadRig : PySem.W.kitOne K (.ref C_UnknownMember) (.ref C_BadRig) = some (isE "UnknownMember" "BadRig"))
    (ke_UnknownMember_BadNumber : PySem.W.kitOne K (.ref C_UnknownMember) (.ref C_BadNumber) = some (isE "UnknownMember" "BadNumber"))
    (ke_UnknownMember_BadLines : PySem.W.kitOne K (.ref C_UnknownMember) (.ref C_BadLines) = some (isE "UnknownMember" "BadLines"))
    (ke_UnknownMember_UnknownPoint : PySem.W.kitOne K (.ref C_UnknownMember) (.ref C_UnknownPoint) = some (isE "UnknownMember" "UnknownPoint"))
    (ke_UnknownMember_UnknownMember : PySem.W.kitOne K (.ref C_UnknownMember) (.ref C_UnknownMember) = some (isE "UnknownMember" "UnknownMember"))
    (ke_UnknownMember_BadTackle : PySem.W.kitOne K (.ref C_UnknownMember) (.ref C_BadTackle) = some (isE "UnknownMember" "BadTackle"))
    (ke_UnknownMember_BadPieces : PySem.W.kitOne K (.ref C_UnknownMember) (.ref C_BadPieces) = some (isE "UnknownMember" "BadPieces"))
    (ke_UnknownMember_BadText : PySem.W.kitOne K (.ref C_UnknownMember) (.ref C_BadText) = some (isE "UnknownMember" "BadText"))
    (ke_UnknownMember_BadLine : PySem.W.kitOne K (.ref C_UnknownMember) (.ref C_BadLine) = some (isE "UnknownMember" "BadLine"))
    (ke_UnknownMember_NotHeld : PySem.W.kitOne K (.ref C_UnknownMember) (.ref C_NotHeld) = some (isE "UnknownMember" "NotHeld"))
    (ke_UnknownMember_BadClaim : PySem.W.kitOne K (.ref C_UnknownMember) (.ref C_BadClaim) = some (isE "UnknownMember" "BadClaim"))
    (ke_UnknownMember_NothingDone : PySem.W.kitOne K (.ref C_UnknownMember) (.ref C_NothingDone) = some (isE "UnknownMember" "NothingDone"))
    (kv_UnknownMember : PySem.W.kitOne K (.ref C_UnknownMember) (.type "ValueError") = some (isE "UnknownMember" "ValueError"))
    (xm_UnknownMember : PySem.W.exmOne K (.ref C_UnknownMember) (.ref C_LoftError) = some true)
    (kle_UnknownMember : PySem.W.kitOne K (.ref C_UnknownMember) (.ref C_LoftError) = some true)
    (lx_UnknownPoint : K.lookup C_UnknownPoint = some (excClassObj nmx_UnknownPoint qx_UnknownPoint C_UnknownPoint Nx_UnknownPoint bsx_UnknownPoint bmx_UnknownPoint true snx_UnknownPoint sux_UnknownPoint abx_UnknownPoint cox_UnknownPoint ddx_UnknownPoint k0_UnknownPoint k1_UnknownPoint k2_UnknownPoint k3_UnknownPoint k5_UnknownPoint "ValueError.__new__"))
    (rvx_UnknownPoint : PySem.HandSPX.refsVE bmx_UnknownPoint = true)
    (sax_UnknownPoint : PySem.W.findIn K (.ref C_UnknownPoint) "__setattr__" = some (some (.builtin "object.__setattr__")))
    (exx_UnknownPoint : PySem.W.subIn K (.ref C_UnknownPoint) (.type "BaseException") = some true)
    (tyx_UnknownPoint : PySem.W.typeIn K (.ref C_UnknownPoint) = some (.type "type"))
    (kcx_UnknownPoint : PySem.W.keepIn K (.ref C_UnknownPoint) = true)
    (cdx_UnknownPoint : PySem.W.clsIn K C_UnknownPoint = some clx_UnknownPoint)
    (mex_UnknownPoint : PySem.W.mroIn K C_UnknownPoint (.ref C_UnknownPoint) = some true)
    (upx_UnknownPoint : PySem.W.ks_superIn K C_UnknownPoint C_UnknownPoint "__init__" = some (some (.builtin "ValueError.__init__")))
    (vex_UnknownPoint : PySem.W.subIn K (.ref C_UnknownPoint) (.type "ValueError") = some true)
    (aix_UnknownPoint : PySem.W.findIn K (.ref C_UnknownPoint) "__init__" = some (some (.ref AI_UnknownPoint)))
    (lix_UnknownPoint : K.lookup AI_UnknownPoint = some ⟨ocx_UnknownPoint, odx_UnknownPoint, .func (PySem.W.ksFn "__init__" "UnknownPoint.__init__" (defArgs sI_UnknownPoint) (defBody sI_UnknownPoint) (defScope sI_UnknownPoint) .none kVx_UnknownPoint dcx_UnknownPoint pmx_UnknownPoint anx_UnknownPoint (.ref cda_UnknownPoint) ctx_UnknownPoint ccx_UnknownPoint), slx_UnknownPoint⟩)
    (eix_UnknownPoint : PySem.W.codeIn K (.ref cda_UnknownPoint) "UnknownPoint.__init__" = true)
    (lcx_UnknownPoint : K.lookup ccx_UnknownPoint = some ⟨cex_UnknownPoint, cedx_UnknownPoint, .cell (some (.ref C_UnknownPoint)), cesx_UnknownPoint⟩)
    (ldx_UnknownPoint : K.lookup cda_UnknownPoint = some ⟨ccc_UnknownPoint, ccd_UnknownPoint, .fields cvx_UnknownPoint, ccs_UnknownPoint⟩)
    (hvx_UnknownPoint : (cvx_UnknownPoint[2]? : Option Value) = some (.str flx_UnknownPoint tfx_UnknownPoint))
    (hfx_UnknownPoint : ((l.prog.main.file : Str) == flx_UnknownPoint) = true)
    (tix_UnknownPoint : PySem.W.typeIn K (.ref AI_UnknownPoint) = some (.type "function"))
    (nx_UnknownPoint_part : PySem.W.findIn K (.ref C_UnknownPoint) "part" = some none)
    (nx_UnknownPoint_place : PySem.W.findIn K (.ref C_UnknownPoint) "place" = some none)
    (nx_UnknownPoint_value : PySem.W.findIn K (.ref C_UnknownPoint) "value" = some none)
    (nx_UnknownPoint_name : PySem.W.findIn K (.ref C_UnknownPoint) "name" = some none)
    (nx_UnknownPoint_line : PySem.W.findIn K (.ref C_UnknownPoint) "line" = some none)
    (hgx_UnknownPoint : PySem.W.findIn K (.ref C_UnknownPoint) "__getattribute__" = some (some (.builtin "BaseException.__getattribute__")))
    (hkx_UnknownPoint : PySem.W.findIn K (.ref C_UnknownPoint) "__getattr__" = some none)
    (hdx_UnknownPoint : PySem.W.hasDictIn K C_UnknownPoint = true)
    (hax_UnknownPoint : PySem.W.findIn K (.ref C_UnknownPoint) "__class__" = some (some (.builtin "object.__class__")))
    (hmx_UnknownPoint : PySem.W.mroIn K C_UnknownPoint (.type "object") = some true)
    (ke_UnknownPoint_BadRig : PySem.W.kitOne K (.ref C_UnknownPoint) (.ref C_BadRig) = some (isE "UnknownPoint" "BadRig"))
    (ke_UnknownPoint_BadNumber : PySem.W.kitOne K (.ref C_UnknownPoint) (.ref C_BadNumber) = some (isE "UnknownPoint" "BadNumber"))
    (ke_UnknownPoint_BadLines : PySem.W.kitOne K (.ref C_UnknownPoint) (.ref C_BadLines) = some (isE "UnknownPoint" "BadLines"))
    (ke_UnknownPoint_UnknownPoint : PySem.W.kitOne K (.ref C_UnknownPoint) (.ref C_UnknownPoint) = some (isE "UnknownPoint" "UnknownPoint"))
    (ke_UnknownPoint_UnknownMember : PySem.W.kitOne K (.ref C_UnknownPoint) (.ref C_UnknownMember) = some (isE "UnknownPoint" "UnknownMember"))
    (ke_UnknownPoint_BadTackle : PySem.W.kitOne K (.ref C_UnknownPoint) (.ref C_BadTackle) = some (isE "UnknownPoint" "BadTackle"))
    (ke_UnknownPoint_BadPieces : PySem.W.kitOne K (.ref C_UnknownPoint) (.ref C_BadPieces) = some (isE "UnknownPoint" "BadPieces"))
    (ke_UnknownPoint_BadText : PySem.W.kitOne K (.ref C_UnknownPoint) (.ref C_BadText) = some (isE "UnknownPoint" "BadText"))
    (ke_UnknownPoint_BadLine : PySem.W.kitOne K (.ref C_UnknownPoint) (.ref C_BadLine) = some (isE "UnknownPoint" "BadLine"))
    (ke_UnknownPoint_NotHeld : PySem.W.kitOne K (.ref C_UnknownPoint) (.ref C_NotHeld) = some (isE "UnknownPoint" "NotHeld"))
    (ke_UnknownPoint_BadClaim : PySem.W.kitOne K (.ref C_UnknownPoint) (.ref C_BadClaim) = some (isE "UnknownPoint" "BadClaim"))
    (ke_UnknownPoint_NothingDone : PySem.W.kitOne K (.ref C_UnknownPoint) (.ref C_NothingDone) = some (isE "UnknownPoint" "NothingDone"))
    (kv_UnknownPoint : PySem.W.kitOne K (.ref C_UnknownPoint) (.type "ValueError") = some (isE "UnknownPoint" "ValueError"))
    (xm_UnknownPoint : PySem.W.exmOne K (.ref C_UnknownPoint) (.ref C_LoftError) = some true)
    (kle_UnknownPoint : PySem.W.kitOne K (.ref C_UnknownPoint) (.ref C_LoftError) = some true)
    (a__law_taken : PySem.W.nsIn K mainGlobals "_law_taken" = some (some (.ref A__law_taken)))
    (l__law_taken : K.lookup A__law_taken = some ⟨oc__law_taken, od__law_taken, .func (PySem.W.fnOf "_law_taken" "_law_taken" (defArgs s__law_taken) (defBody s__law_taken) (defScope s__law_taken) .none kV__law_taken dc__law_taken pm__law_taken an__law_taken (cd__law_taken) ct__law_taken), sl__law_taken⟩)
    (e__law_taken : PySem.W.codeIn K (cd__law_taken) "_law_taken" = true)
    (k__law_taken : PySem.W.keepIn K (.ref A__law_taken) = true)
    (a__law_same : PySem.W.nsIn K mainGlobals "_law_same" = some (some (.ref A__law_same)))
    (l__law_same : K.lookup A__law_same = some ⟨oc__law_same, od__law_same, .func (PySem.W.fnOf "_law_same" "_law_same" (defArgs s__law_same) (defBody s__law_same) (defScope s__law_same) .none kV__law_same dc__law_same pm__law_same an__law_same (cd__law_same) ct__law_same), sl__law_same⟩)
    (e__law_same : PySem.W.codeIn K (cd__law_same) "_law_same" = true)
    (k__law_same : PySem.W.keepIn K (.ref A__law_same) = true)
    (a__law_refusal : PySem.W.nsIn K mainGlobals "_law_refusal" = some (some (.ref A__law_refusal)))
    (l__law_refusal : K.lookup A__law_refusal = some ⟨oc__law_refusal, od__law_refusal, .func (PySem.W.fnOf "_law_refusal" "_law_refusal" (defArgs s__law_refusal) (defBody s__law_refusal) (defScope s__law_refusal) .none kV__law_refusal dc__law_refusal pm__law_refusal an__law_refusal (cd__law_refusal) ct__law_refusal), sl__law_refusal⟩)
    (e__law_refusal : PySem.W.codeIn K (cd__law_refusal) "_law_refusal" = true)
    (k__law_refusal : PySem.W.keepIn K (.ref A__law_refusal) = true)
    (a__law_pick : PySem.W.nsIn K mainGlobals "_law_pick" = some (some (.ref A__law_pick)))
    (l__law_pick : K.lookup A__law_pick = some ⟨oc__law_pick, od__law_pick, .func (PySem.W.fnOf "_law_pick" "_law_pick" (defArgs s__law_pick) (defBody s__law_pick) (defScope s__law_pick) .none kV__law_pick dc__law_pick pm__law_pick an__law_pick (cd__law_pick) ct__law_pick), sl__law_pick⟩)
    (e__law_pick : PySem.W.codeIn K (cd__law_pick) "_law_pick" = true)
    (k__law_pick : PySem.W.keepIn K (.ref A__law_pick) = true)
    (a_law : PySem.W.nsIn K mainGlobals "law" = some (some (.ref A_law)))
    (l_law : K.lookup A_law = some ⟨oc_law, od_law, .func (PySem.W.fnOf "law" "law" (defArgs s_law) (defBody s_law) (defScope s_law) .none kV_law dc_law pm_law an_law (cd_law) ct_law), sl_law⟩)
    (e_law : PySem.W.codeIn K (cd_law) "law" = true)
    (k_law : PySem.W.keepIn K (.ref A_law) = true)
    (plain : ∀ ns : List Int, ns.length ≤ 63 → (∀ z ∈ ns, Builtin.Int.intBits z ≤ 1048576) → m_law [.scr ns] = .ok (.d (.bl true))) :
    LawAtG l w K (L2.CX l.prog w) 4 63 "script" mg fa h := by
  have e := hfa.symm.trans (PySem.W.mg_of X G a_law)
  cases e
  have F__law_taken := fun_mk (st := s__law_taken) l__law_taken e__law_taken k__law_taken
  have B__law_taken := F__law_taken.binds (ps := ["row", "many"]) fun _ _ _ _ _ _ us hl => match us, hl with | [_, _], _ => rfl
  have F__law_same := fun_mk (st := s__law_same) l__law_same e__law_same k__law_same
  have B__law_same := F__law_same.binds (ps := ["found", "due"]) fun _ _ _ _ _ _ us hl => match us, hl with | [_, _], _ => rfl
  have F__law_refusal := fun_mk (st := s__law_refusal) l__law_refusal e__law_refusal k__law_refusal
  have B__law_refusal := F__law_refusal.binds (ps := ["e"]) fun _ _ _ _ _ _ us hl => match us, hl with | [_], _ => rfl
  have F__law_pick := fun_mk (st := s__law_pick) l__law_pick e__law_pick k__law_pick
  have B__law_pick := F__law_pick.binds (ps := ["row", "things"]) fun _ _ _ _ _ _ us hl => match us, hl with | [_, _], _ => rfl
  have F_law := fun_mk (st := s_law) l_law e_law k_law
  have B_law := F_law.binds (ps := ["script"]) fun _ _ _ _ _ _ us hl => match us, hl with | [_], _ => rfl
  refine ⟨PySem.W.fnOf "law" "law" (defArgs s_law) (defBody s_law) (defScope s_law) .none kV_law dc_law pm_law an_law (cd_law) ct_law, [], spP ⟨K, mg, []⟩ 1 m_law, ?_, ?_, ?_, fun s v => .of_eq rfl, ?_, fun base hK hG hT => ?_⟩
  · intro p hp
    simp only [List.mem_cons, List.not_mem_nil, or_false] at hp
  · intro p hp
    simp only [List.mem_cons, List.not_mem_nil, or_false] at hp
  · intro p hp
    simp only [List.mem_cons, List.not_mem_nil, or_false] at hp
  · intro H a ns hl hb ht hS
    exact sp_law (plain ns hl hb) (fun p hp => by
      simp only [List.mem_cons, List.not_mem_nil, or_false] at hp
      ) hS
  · let T : Top l.prog ⟨K, mg, []⟩ base := {
      z_ValueError := PySem.W.mg_none_of X G z_ValueError
      z_int := PySem.W.mg_none_of X G z_int
      z_isinstance := PySem.W.mg_none_of X G z_isinstance
      z_len := PySem.W.mg_none_of X G z_len
      z_repr := PySem.W.mg_none_of X G z_repr
      ns_super := PySem.W.mg_none_of X G ns_super
      C_BadClaim := C_BadClaim
      g_BadClaim := PySem.W.mg_of X G gC_BadClaim
      C_BadLine := C_BadLine
      g_BadLine := PySem.W.mg_of X G gC_BadLine
      C_BadLines := C_BadLines
      g_BadLines := PySem.W.mg_of X G gC_BadLines
      C_BadNumber := C_BadNumber
      g_BadNumber := PySem.W.mg_of X G gC_BadNumber
      C_BadPieces := C_BadPieces
      g_BadPieces := PySem.W.mg_of X G gC_BadPieces
      C_BadRig := C_BadRig
      g_BadRig := PySem.W.mg_of X G gC_BadRig
      C_BadTackle := C_BadTackle
      g_BadTackle := PySem.W.mg_of X G gC_BadTackle
      C_BadText := C_BadText
      g_BadText := PySem.W.mg_of X G gC_BadText
      C_LoftError := C_LoftError
      g_LoftError := PySem.W.mg_of X G gC_LoftError
      C_NotHeld := C_NotHeld
      g_NotHeld := PySem.W.mg_of X G gC_NotHeld
      C_NothingDone := C_NothingDone
      g_NothingDone := PySem.W.mg_of X G gC_NothingDone
      C_UnknownMember := C_UnknownMember
      g_UnknownMember := PySem.W.mg_of X G gC_UnknownMember
      C_UnknownPoint := C_UnknownPoint
      g_UnknownPoint := PySem.W.mg_of X G gC_UnknownPoint
      oe_BadClaim := (oex_mk lx_BadClaim rvx_BadClaim sax_BadClaim exx_BadClaim tyx_BadClaim kcx_BadClaim)
      xc_BadClaim := excls_mk (oex_mk lx_BadClaim rvx_BadClaim sax_BadClaim exx_BadClaim tyx_BadClaim kcx_BadClaim) cdx_BadClaim mex_BadClaim upx_BadClaim vex_BadClaim npx
      aI_BadClaim := AI_BadClaim
      dI_BadClaim := _
      if_BadClaim := initF_mk lix_BadClaim eix_BadClaim lcx_BadClaim ldx_BadClaim hvx_BadClaim hfx_BadClaim tpx
      ini_BadClaim := aix_BadClaim
      ty_BadClaim := tix_BadClaim
      bi_BadClaim := .all fun us hl => match us, hl with | [_], _ => rfl
      nx_BadClaim_part := nx_BadClaim_part
      nx_BadClaim_place := nx_BadClaim_place
      nx_BadClaim_value := nx_BadClaim_value
      nx_BadClaim_name := nx_BadClaim_name
      nx_BadClaim_line := nx_BadClaim_line
      ec_BadClaim := excC_mk hgx_BadClaim hkx_BadClaim exx_BadClaim hdx_BadClaim hax_BadClaim hnx htx hmx_BadClaim
      ke_BadClaim_BadRig := ke_BadClaim_BadRig
      ke_BadClaim_BadNumber := ke_BadClaim_BadNumber
      ke_BadClaim_BadLines := ke_BadClaim_BadLines
      ke_BadClaim_UnknownPoint := ke_BadClaim_UnknownPoint
      ke_BadClaim_UnknownMember := ke_BadClaim_UnknownMember
      ke_BadClaim_BadTackle := ke_BadClaim_BadTackle
      ke_BadClaim_BadPieces := ke_BadClaim_BadPieces
      ke_BadClaim_BadText := ke_BadClaim_BadText
      ke_BadClaim_BadLine := ke_BadClaim_BadLine
      ke_BadClaim_NotHeld := ke_BadClaim_NotHeld
      ke_BadClaim_BadClaim := ke_BadClaim_BadClaim
      ke_BadClaim_NothingDone := ke_BadClaim_NothingDone
      kv_BadClaim := kv_BadClaim
      xm_BadClaim := xm_BadClaim
      kle_BadClaim := kle_BadClaim
      oe_BadLine := (oex_mk lx_BadLine rvx_BadLine sax_BadLine exx_BadLine tyx_BadLine kcx_BadLine)
      xc_BadLine := excls_mk (oex_mk lx_BadLine rvx_BadLine sax_BadLine exx_BadLine tyx_BadLine kcx_BadLine) cdx_BadLine mex_BadLine upx_BadLine vex_BadLine npx
      aI_BadLine := AI_BadLine
      dI_BadLine := _
      if_BadLine := initF_mk lix_BadLine eix_BadLine lcx_BadLine ldx_BadLine hvx_BadLine hfx_BadLine tpx
      ini_BadLine := aix_BadLine
      ty_BadLine := tix_BadLine
      bi_BadLine := .all fun us hl => match us, hl with | [_, _], _ => rfl
      nx_BadLine_part := nx_BadLine_part
      nx_BadLine_place := nx_BadLine_place
      nx_BadLine_value := nx_BadLine_value
      nx_BadLine_name := nx_BadLine_name
      nx_BadLine_line := nx_BadLine_line
      ec_BadLine := excC_mk hgx_BadLine hkx_BadLine exx_BadLine hdx_BadLine hax_BadLine hnx htx hmx_BadLine
      ke_BadLine_BadRig := ke_BadLine_BadRig
      ke_BadLine_BadNumber := ke_BadLine_BadNumber
      ke_BadLine_BadLines := ke_BadLine_BadLines
      ke_BadLine_UnknownPoint := ke_BadLine_UnknownPoint
      ke_BadLine_UnknownMember := ke_BadLine_UnknownMember
      ke_BadLine_BadTackle := ke_BadLine_BadTackle
      ke_BadLine_BadPieces := ke_BadLine_BadPieces
      ke_BadLine_BadText := ke_BadLine_BadText
      ke_BadLine_BadLine := ke_BadLine_BadLine
      ke_BadLine_NotHeld := ke_BadLine_NotHeld
      ke_BadLine_BadClaim := ke_BadLine_BadClaim
      ke_BadLine_NothingDone := ke_BadLine_NothingDone
      kv_BadLine := kv_BadLine
      xm_BadLine := xm_BadLine
      kle_BadLine := kle_BadLine
      oe_BadLines := (oex_mk lx_BadLines rvx_BadLines sax_BadLines exx_BadLines tyx_BadLines kcx_BadLines)
      xc_BadLines := excls_mk (oex_mk lx_BadLines rvx_BadLines sax_BadLines exx_BadLines tyx_BadLines kcx_BadLines) cdx_BadLines mex_BadLines upx_BadLines vex_BadLines npx
      aI_BadLines := AI_BadLines
      dI_BadLines := _
      if_BadLines := initF_mk lix_BadLines eix_BadLines lcx_BadLines ldx_BadLines hvx_BadLines hfx_BadLines tpx
      ini_BadLines := aix_BadLines
      ty_BadLines := tix_BadLines
      bi_BadLines := .all fun us hl => match us, hl with | [_, _], _ => rfl
      nx_BadLines_part := nx_BadLines_part
      nx_BadLines_place := nx_BadLines_place
      nx_BadLines_value := nx_BadLines_value
      nx_BadLines_name := nx_BadLines_name
      nx_BadLines_line := nx_BadLines_line
      ec_BadLines := excC_mk hgx_BadLines hkx_BadLines exx_BadLines hdx_BadLines hax_BadLines hnx htx hmx_BadLines
      ke_BadLines_BadRig := ke_BadLines_BadRig
      ke_BadLines_BadNumber := ke_BadLines_BadNumber
      ke_BadLines_BadLines := ke_BadLines_BadLines
      ke_BadLines_UnknownPoint := ke_BadLines_UnknownPoint
      ke_BadLines_UnknownMember := ke_BadLines_UnknownMember
      ke_BadLines_BadTackle := ke_BadLines_BadTackle
      ke_BadLines_BadPieces := ke_BadLines_BadPieces
      ke_BadLines_BadText := ke_BadLines_BadText
      ke_BadLines_BadLine := ke_BadLines_BadLine
      ke_BadLines_NotHeld := ke_BadLines_NotHeld
      ke_BadLines_BadClaim := ke_BadLines_BadClaim
      ke_BadLines_NothingDone := ke_BadLines_NothingDone
      kv_BadLines := kv_BadLines
      xm_BadLines := xm_BadLines
      kle_BadLines := kle_BadLines
      oe_BadNumber := (oex_mk lx_BadNumber rvx_BadNumber sax_BadNumber exx_BadNumber tyx_BadNumber kcx_BadNumber)
      xc_BadNumber := excls_mk (oex_mk lx_BadNumber rvx_BadNumber sax_BadNumber exx_BadNumber tyx_BadNumber kcx_BadNumber) cdx_BadNumber mex_BadNumber upx_BadNumber vex_BadNumber npx
      aI_BadNumber := AI_BadNumber
      dI_BadNumber := _
      if_BadNumber := initF_mk lix_BadNumber eix_BadNumber lcx_BadNumber ldx_BadNumber hvx_BadNumber hfx_BadNumber tpx
      ini_BadNumber := aix_BadNumber
      ty_BadNumber := tix_BadNumber
      bi_BadNumber := .all fun us hl => match us, hl with | [_, _], _ => rfl
      nx_BadNumber_part := nx_BadNumber_part
      nx_BadNumber_place := nx_BadNumber_place
      nx_BadNumber_value := nx_BadNumber_value
      nx_BadNumber_name := nx_BadNumber_name
      nx_BadNumber_line := nx_BadNumber_line
      ec_BadNumber := excC_mk hgx_BadNumber hkx_BadNumber exx_BadNumber hdx_BadNumber hax_BadNumber hnx htx hmx_BadNumber
      ke_BadNumber_BadRig := ke_BadNumber_BadRig
      ke_BadNumber_BadNumber := ke_BadNumber_BadNumber
      ke_BadNumber_BadLines := ke_BadNumber_BadLines
      ke_BadNumber_UnknownPoint := ke_BadNumber_UnknownPoint
      ke_BadNumber_UnknownMember := ke_BadNumber_UnknownMember
      ke_BadNumber_BadTackle := ke_BadNumber_BadTackle
      ke_BadNumber_BadPieces := ke_BadNumber_BadPieces
      ke_BadNumber_BadText := ke_BadNumber_BadText
      ke_BadNumber_BadLine := ke_BadNumber_BadLine
      ke_BadNumber_NotHeld := ke_BadNumber_NotHeld
      ke_BadNumber_BadClaim := ke_BadNumber_BadClaim
      ke_BadNumber_NothingDone := ke_BadNumber_NothingDone
      kv_BadNumber := kv_BadNumber
      xm_BadNumber := xm_BadNumber
      kle_BadNumber := kle_BadNumber
      oe_BadPieces := (oex_mk lx_BadPieces rvx_BadPieces sax_BadPieces exx_BadPieces tyx_BadPieces kcx_BadPieces)
      xc_BadPieces := excls_mk (oex_mk lx_BadPieces rvx_BadPieces sax_BadPieces exx_BadPieces tyx_BadPieces kcx_BadPieces) cdx_BadPieces mex_BadPieces upx_BadPieces vex_BadPieces npx
      aI_BadPieces := AI_BadPieces
      dI_BadPieces := _
      if_BadPieces := initF_mk lix_BadPieces eix_BadPieces lcx_BadPieces ldx_BadPieces hvx_BadPieces hfx_BadPieces tpx
      ini_BadPieces := aix_BadPieces
      ty_BadPieces := tix_BadPieces
      bi_BadPieces := .all fun us hl => match us, hl with | [_, _], _ => rfl
      nx_BadPieces_part := nx_BadPieces_part
      nx_BadPieces_place := nx_BadPieces_place
      nx_BadPieces_value := nx_BadPieces_value
      nx_BadPieces_name := nx_BadPieces_name
      nx_BadPieces_line := nx_BadPieces_line
      ec_BadPieces := excC_mk hgx_BadPieces hkx_BadPieces exx_BadPieces hdx_BadPieces hax_BadPieces hnx htx hmx_BadPieces
      ke_BadPieces_BadRig := ke_BadPieces_BadRig
      ke_BadPieces_BadNumber := ke_BadPieces_BadNumber
      ke_BadPieces_BadLines := ke_BadPieces_BadLines
      ke_BadPieces_UnknownPoint := ke_BadPieces_UnknownPoint
      ke_BadPieces_UnknownMember := ke_BadPieces_UnknownMember
      ke_BadPieces_BadTackle := ke_BadPieces_BadTackle
      ke_BadPieces_BadPieces := ke_BadPieces_BadPieces
      ke_BadPieces_BadText := ke_BadPieces_BadText
      ke_BadPieces_BadLine := ke_BadPieces_BadLine
      ke_BadPieces_NotHeld := ke_BadPieces_NotHeld
      ke_BadPieces_BadClaim := ke_BadPieces_BadClaim
      ke_BadPieces_NothingDone := ke_BadPieces_NothingDone
      kv_BadPieces := kv_BadPieces
      xm_BadPieces := xm_BadPieces
      kle_BadPieces := kle_BadPieces
      oe_BadRig := (oex_mk lx_BadRig rvx_BadRig sax_BadRig exx_BadRig tyx_BadRig kcx_BadRig)
      xc_BadRig := excls_mk (oex_mk lx_BadRig rvx_BadRig sax_BadRig exx_BadRig tyx_BadRig kcx_BadRig) cdx_BadRig mex_BadRig upx_BadRig vex_BadRig npx
      aI_BadRig := AI_BadRig
      dI_BadRig := _
      if_BadRig := initF_mk lix_BadRig eix_BadRig lcx_BadRig ldx_BadRig hvx_BadRig hfx_BadRig tpx
      ini_BadRig := aix_BadRig
      ty_BadRig := tix_BadRig
      bi_BadRig := .all fun us hl => match us, hl with | [_, _, _], _ => rfl
      nx_BadRig_part := nx_BadRig_part
      nx_BadRig_place := nx_BadRig_place
      nx_BadRig_value := nx_BadRig_value
      nx_BadRig_name := nx_BadRig_name
      nx_BadRig_line := nx_BadRig_line
      ec_BadRig := excC_mk hgx_BadRig hkx_BadRig exx_BadRig hdx_BadRig hax_BadRig hnx htx hmx_BadRig
      ke_BadRig_BadRig := ke_BadRig_BadRig
      ke_BadRig_BadNumber := ke_BadRig_BadNumber
      ke_BadRig_BadLines := ke_BadRig_BadLines
      ke_BadRig_UnknownPoint := ke_BadRig_UnknownPoint
      ke_BadRig_UnknownMember := ke_BadRig_UnknownMember
      ke_BadRig_BadTackle := ke_BadRig_BadTackle
      ke_BadRig_BadPieces := ke_BadRig_BadPieces
      ke_BadRig_BadText := ke_BadRig_BadText
      ke_BadRig_BadLine := ke_BadRig_BadLine
      ke_BadRig_NotHeld := ke_BadRig_NotHeld
      ke_BadRig_BadClaim := ke_BadRig_BadClaim
      ke_BadRig_NothingDone := ke_BadRig_NothingDone
      kv_BadRig := kv_BadRig
      xm_BadRig := xm_BadRig
      kle_BadRig := kle_BadRig
      oe_BadTackle := (oex_mk lx_BadTackle rvx_BadTackle sax_BadTackle exx_BadTackle tyx_BadTackle kcx_BadTackle)
      xc_BadTackle := excls_mk (oex_mk lx_BadTackle rvx_BadTackle sax_BadTackle exx_BadTackle tyx_BadTackle kcx_BadTackle) cdx_BadTackle mex_BadTackle upx_BadTackle vex_BadTackle npx
      aI_BadTackle := AI_BadTackle
      dI_BadTackle := _
      if_BadTackle := initF_mk lix_BadTackle eix_BadTackle lcx_BadTackle ldx_BadTackle hvx_BadTackle hfx_BadTackle tpx
      ini_BadTackle := aix_BadTackle
      ty_BadTackle := tix_BadTackle
      bi_BadTackle := .all fun us hl => match us, hl with | [_, _], _ => rfl
      nx_BadTackle_part := nx_BadTackle_part
      nx_BadTackle_place := nx_BadTackle_place
      nx_BadTackle_value := nx_BadTackle_value
      nx_BadTackle_name := nx_BadTackle_name
      nx_BadTackle_line := nx_BadTackle_line
      ec_BadTackle := excC_mk hgx_BadTackle hkx_BadTackle exx_BadTackle hdx_BadTackle hax_BadTackle hnx htx hmx_BadTackle
      ke_BadTackle_BadRig := ke_BadTackle_BadRig
      ke_BadTackle_BadNumber := ke_BadTackle_BadNumber
      ke_BadTackle_BadLines := ke_BadTackle_BadLines
      ke_BadTackle_UnknownPoint := ke_BadTackle_UnknownPoint
      ke_BadTackle_UnknownMember := ke_BadTackle_UnknownMember
      ke_BadTackle_BadTackle := ke_BadTackle_BadTackle
      ke_BadTackle_BadPieces := ke_BadTackle_BadPieces
      ke_BadTackle_BadText := ke_BadTackle_BadText
      ke_BadTackle_BadLine := ke_BadTackle_BadLine
      ke_BadTackle_NotHeld := ke_BadTackle_NotHeld
      ke_BadTackle_BadClaim := ke_BadTackle_BadClaim
      ke_BadTackle_NothingDone := ke_BadTackle_NothingDone
      kv_BadTackle := kv_BadTackle
      xm_BadTackle := xm_BadTackle
      kle_BadTackle := kle_BadTackle
      oe_BadText := (oex_mk lx_BadText rvx_BadText sax_BadText exx_BadText tyx_BadText kcx_BadText)
      xc_BadText := excls_mk (oex_mk lx_BadText rvx_BadText sax_BadText exx_BadText tyx_BadText kcx_BadText) cdx_BadText mex_BadText upx_BadText vex_BadText npx
      aI_BadText := AI_BadText
      dI_BadText := _
      if_BadText := initF_mk lix_BadText eix_BadText lcx_BadText ldx_BadText hvx_BadText hfx_BadText tpx
      ini_BadText := aix_BadText
      ty_BadText := tix_BadText
      bi_BadText := .all fun us hl => match us, hl with | [_, _], _ => rfl
      nx_BadText_part := nx_BadText_part
      nx_BadText_place := nx_BadText_place
      nx_BadText_value := nx_BadText_value
      nx_BadText_name := nx_BadText_name
      nx_BadText_line := nx_BadText_line
      ec_BadText := excC_mk hgx_BadText hkx_BadText exx_BadText hdx_BadText hax_BadText hnx htx hmx_BadText
      ke_BadText_BadRig := ke_BadText_BadRig
      ke_BadText_BadNumber := ke_BadText_BadNumber
      ke_BadText_BadLines := ke_BadText_BadLines
      ke_BadText_UnknownPoint := ke_BadText_UnknownPoint
      ke_BadText_UnknownMember := ke_BadText_UnknownMember
      ke_BadText_BadTackle := ke_BadText_BadTackle
      ke_BadText_BadPieces := ke_BadText_BadPieces
      ke_BadText_BadText := ke_BadText_BadText
      ke_BadText_BadLine := ke_BadText_BadLine
      ke_BadText_NotHeld := ke_BadText_NotHeld
      ke_BadText_BadClaim := ke_BadText_BadClaim
      ke_BadText_NothingDone := ke_BadText_NothingDone
      kv_BadText := kv_BadText
      xm_BadText := xm_BadText
      kle_BadText := kle_BadText
      oe_NotHeld := (oex_mk lx_NotHeld rvx_NotHeld sax_NotHeld exx_NotHeld tyx_NotHeld kcx_NotHeld)
      xc_NotHeld := excls_mk (oex_mk lx_NotHeld rvx_NotHeld sax_NotHeld exx_NotHeld tyx_NotHeld kcx_NotHeld) cdx_NotHeld mex_NotHeld upx_NotHeld vex_NotHeld npx
      aI_NotHeld := AI_NotHeld
      dI_NotHeld := _
      if_NotHeld := initF_mk lix_NotHeld eix_NotHeld lcx_NotHeld ldx_NotHeld hvx_NotHeld hfx_NotHeld tpx
      ini_NotHeld := aix_NotHeld
      ty_NotHeld := tix_NotHeld
      bi_NotHeld := .all fun us hl => match us, hl with | [_], _ => rfl
      nx_NotHeld_part := nx_NotHeld_part
      nx_NotHeld_place := nx_NotHeld_place
      nx_NotHeld_value := nx_NotHeld_value
      nx_NotHeld_name := nx_NotHeld_name
      nx_NotHeld_line := nx_NotHeld_line
      ec_NotHeld := excC_mk hgx_NotHeld hkx_NotHeld exx_NotHeld hdx_NotHeld hax_NotHeld hnx htx hmx_NotHeld
      ke_NotHeld_BadRig := ke_NotHeld_BadRig
      ke_NotHeld_BadNumber := ke_NotHeld_BadNumber
      ke_NotHeld_BadLines := ke_NotHeld_BadLines
      ke_NotHeld_UnknownPoint := ke_NotHeld_UnknownPoint
      ke_NotHeld_UnknownMember := ke_NotHeld_UnknownMember
      ke_NotHeld_BadTackle := ke_NotHeld_BadTackle
      ke_NotHeld_BadPieces := ke_NotHeld_BadPieces
      ke_NotHeld_BadText := ke_NotHeld_BadText
      ke_NotHeld_BadLine := ke_NotHeld_BadLine
      ke_NotHeld_NotHeld := ke_NotHeld_NotHeld
      ke_NotHeld_BadClaim := ke_NotHeld_BadClaim
      ke_NotHeld_NothingDone := ke_NotHeld_NothingDone
      kv_NotHeld := kv_NotHeld
      xm_NotHeld := xm_NotHeld
      kle_NotHeld := kle_NotHeld
      oe_NothingDone := (oex_mk lx_NothingDone rvx_NothingDone sax_NothingDone exx_NothingDone tyx_NothingDone kcx_NothingDone)
      xc_NothingDone := excls_mk (oex_mk lx_NothingDone rvx_NothingDone sax_NothingDone exx_NothingDone tyx_NothingDone kcx_NothingDone) cdx_NothingDone mex_NothingDone upx_NothingDone vex_NothingDone npx
      aI_NothingDone := AI_NothingDone
      dI_NothingDone := _
      if_NothingDone := initF_mk lix_NothingDone eix_NothingDone lcx_NothingDone ldx_NothingDone hvx_NothingDone hfx_NothingDone tpx
      ini_NothingDone := aix_NothingDone
      ty_NothingDone := tix_NothingDone
      bi_NothingDone := .all fun us hl => match us, hl with | [_], _ => rfl
      nx_NothingDone_part := nx_NothingDone_part
      nx_NothingDone_place := nx_NothingDone_place
      nx_NothingDone_value := nx_NothingDone_value
      nx_NothingDone_name := nx_NothingDone_name
      nx_NothingDone_line := nx_NothingDone_line
      ec_NothingDone := excC_mk hgx_NothingDone hkx_NothingDone exx_NothingDone hdx_NothingDone hax_NothingDone hnx htx hmx_NothingDone
      ke_NothingDone_BadRig := ke_NothingDone_BadRig
      ke_NothingDone_BadNumber := ke_NothingDone_BadNumber
      ke_NothingDone_BadLines := ke_NothingDone_BadLines
      ke_NothingDone_UnknownPoint := ke_NothingDone_UnknownPoint
      ke_NothingDone_UnknownMember := ke_NothingDone_UnknownMember
      ke_NothingDone_BadTackle := ke_NothingDone_BadTackle
      ke_NothingDone_BadPieces := ke_NothingDone_BadPieces
      ke_NothingDone_BadText := ke_NothingDone_BadText
      ke_NothingDone_BadLine := ke_NothingDone_BadLine
      ke_NothingDone_NotHeld := ke_NothingDone_NotHeld
      ke_NothingDone_BadClaim := ke_NothingDone_BadClaim
      ke_NothingDone_NothingDone := ke_NothingDone_NothingDone
      kv_NothingDone := kv_NothingDone
      xm_NothingDone := xm_NothingDone
      kle_NothingDone := kle_NothingDone
      oe_UnknownMember := (oex_mk lx_UnknownMember rvx_UnknownMember sax_UnknownMember exx_UnknownMember tyx_UnknownMember kcx_UnknownMember)
      xc_UnknownMember := excls_mk (oex_mk lx_UnknownMember rvx_UnknownMember sax_UnknownMember exx_UnknownMember tyx_UnknownMember kcx_UnknownMember) cdx_UnknownMember mex_UnknownMember upx_UnknownMember vex_UnknownMember npx
      aI_UnknownMember := AI_UnknownMember
      dI_UnknownMember := _
      if_UnknownMember := initF_mk lix_UnknownMember eix_UnknownMember lcx_UnknownMember ldx_UnknownMember hvx_UnknownMember hfx_UnknownMember tpx
      ini_UnknownMember := aix_UnknownMember
      ty_UnknownMember := tix_UnknownMember
      bi_UnknownMember := .all fun us hl => match us, hl with | [_, _], _ => rfl
      nx_UnknownMember_part := nx_UnknownMember_part
      nx_UnknownMember_place := nx_UnknownMember_place
      nx_UnknownMember_value := nx_UnknownMember_value
      nx_UnknownMember_name := nx_UnknownMember_name
      nx_UnknownMember_line := nx_UnknownMember_line
      ec_UnknownMember := excC_mk hgx_UnknownMember hkx_UnknownMember exx_UnknownMember hdx_UnknownMember hax_UnknownMember hnx htx hmx_UnknownMember
      ke_UnknownMember_BadRig := ke_UnknownMember_BadRig
      ke_UnknownMember_BadNumber := ke_UnknownMember_BadNumber
      ke_UnknownMember_BadLines := ke_UnknownMember_BadLines
      ke_UnknownMember_UnknownPoint := ke_UnknownMember_UnknownPoint
      ke_UnknownMember_UnknownMember := ke_UnknownMember_UnknownMember
      ke_UnknownMember_BadTackle := ke_UnknownMember_BadTackle
      ke_UnknownMember_BadPieces := ke_UnknownMember_BadPieces
      ke_UnknownMember_BadText := ke_UnknownMember_BadText
      ke_UnknownMember_BadLine := ke_UnknownMember_BadLine
      ke_UnknownMember_NotHeld := ke_UnknownMember_NotHeld
      ke_UnknownMember_BadClaim := ke_UnknownMember_BadClaim
      ke_UnknownMember_NothingDone := ke_UnknownMember_NothingDone
      kv_UnknownMember := kv_UnknownMember
      xm_UnknownMember := xm_UnknownMember
      kle_UnknownMember := kle_UnknownMember
      oe_UnknownPoint := (oex_mk lx_UnknownPoint rvx_UnknownPoint sax_UnknownPoint exx_UnknownPoint tyx_UnknownPoint kcx_UnknownPoint)
      xc_UnknownPoint := excls_mk (oex_mk lx_UnknownPoint rvx_UnknownPoint sax_UnknownPoint exx_UnknownPoint tyx_UnknownPoint kcx_UnknownPoint) cdx_UnknownPoint mex_UnknownPoint upx_UnknownPoint vex_UnknownPoint npx
      aI_UnknownPoint := AI_UnknownPoint
      dI_UnknownPoint := _
      if_UnknownPoint := initF_mk lix_UnknownPoint eix_UnknownPoint lcx_UnknownPoint ldx_UnknownPoint hvx_UnknownPoint hfx_UnknownPoint tpx
      ini_UnknownPoint := aix_UnknownPoint
      ty_UnknownPoint := tix_UnknownPoint
      bi_UnknownPoint := .all fun us hl => match us, hl with | [_, _], _ => rfl
      nx_UnknownPoint_part := nx_UnknownPoint_part
      nx_UnknownPoint_place := nx_UnknownPoint_place
      nx_UnknownPoint_value := nx_UnknownPoint_value
      nx_UnknownPoint_name := nx_UnknownPoint_name
      nx_UnknownPoint_line := nx_UnknownPoint_line
      ec_UnknownPoint := excC_mk hgx_UnknownPoint hkx_UnknownPoint exx_UnknownPoint hdx_UnknownPoint hax_UnknownPoint hnx htx hmx_UnknownPoint
      ke_UnknownPoint_BadRig := ke_UnknownPoint_BadRig
      ke_UnknownPoint_BadNumber := ke_UnknownPoint_BadNumber
      ke_UnknownPoint_BadLines := ke_UnknownPoint_BadLines
      ke_UnknownPoint_UnknownPoint := ke_UnknownPoint_UnknownPoint
      ke_UnknownPoint_UnknownMember := ke_UnknownPoint_UnknownMember
      ke_UnknownPoint_BadTackle := ke_UnknownPoint_BadTackle
      ke_UnknownPoint_BadPieces := ke_UnknownPoint_BadPieces
      ke_UnknownPoint_BadText := ke_UnknownPoint_BadText
      ke_UnknownPoint_BadLine := ke_UnknownPoint_BadLine
      ke_UnknownPoint_NotHeld := ke_UnknownPoint_NotHeld
      ke_UnknownPoint_BadClaim := ke_UnknownPoint_BadClaim
      ke_UnknownPoint_NothingDone := ke_UnknownPoint_NothingDone
      kv_UnknownPoint := kv_UnknownPoint
      xm_UnknownPoint := xm_UnknownPoint
      kle_UnknownPoint := kle_UnknownPoint
      a__law_taken := A__law_taken
      d__law_taken := _
      F__law_taken := F__law_taken
      b__law_taken := B__law_taken
      g__law_taken := PySem.W.mg_of X G a__law_taken
      a__law_same := A__law_same
      d__law_same := _
      F__law_same := F__law_same
      b__law_same := B__law_same
      g__law_same := PySem.W.mg_of X G a__law_same
      a__law_refusal := A__law_refusal
      d__law_refusal := _
      F__law_refusal := F__law_refusal
      b__law_refusal := B__law_refusal
      g__law_refusal := PySem.W.mg_of X G a__law_refusal
      a__law_pick := A__law_pick
      d__law_pick := _
      F__law_pick := F__law_pick
      b__law_pick := B__law_pick
      g__law_pick := PySem.W.mg_of X G a__law_pick
      a_law := A_law
      d_law := _
      F_law := F_law
      b_law := B_law
      g_law := PySem.W.mg_of X G a_law
    }
    exact ok_law T
end PD

set_option maxRecDepth 100000
open PySem PySem.W PyProof.Rows in
set_option maxRecDepth 100000 in
set_option maxHeartbeats 0 in
theorem PySem.Challenge.cw_ropeloft_k00_errors_tell_their_fields_holds : PySem.Challenge.rw_ropeloft_k00_errors_tell_their_fields.Holds := by
  w_on; o_law; k_head; (case hw => w_witness2)
  k_fill
  refine PD.walk_ofG (l := PySem.Challenge.rw_ropeloft_k00_errors_tell_their_fields) (n := 63) (k := 4) (x := "script") (CX := fun w => L2.CX PySem.Challenge.rw_ropeloft_k00_errors_tell_their_fields.prog w) rfl (by decide) rfl ⟨rfl, by decide, by decide⟩ (fun w h Y => PySem.W.kIn_of Y) ?F (fun w H s e s' => PD.cx_end)
  case F =>
    intro w mg fa h Y KX G hmg
    refine' PD.law_at KX G hmg ?z_ValueError ?z_int ?z_isinstance ?z_len ?z_repr ?ns_super ?npx ?tpx ?hnx ?htx ?gC_BadClaim ?gC_BadLine ?gC_BadLines ?gC_BadNumber ?gC_BadPieces ?gC_BadRig ?gC_BadTackle ?gC_BadText ?gC_LoftError ?gC_NotHeld ?gC_NothingDone ?gC_UnknownMember ?gC_UnknownPoint ?lx_BadClaim ?rvx_BadClaim ?sax_BadClaim ?exx_BadClaim ?tyx_BadClaim ?kcx_BadClaim ?cdx_BadClaim ?mex_BadClaim ?upx_BadClaim ?vex_BadClaim ?aix_BadClaim ?lix_BadClaim ?eix_BadClaim ?lcx_BadClaim ?ldx_BadClaim ?hvx_BadClaim ?hfx_BadClaim ?tix_BadClaim ?nx_BadClaim_part ?nx_BadClaim_place ?nx_BadClaim_value ?nx_BadClaim_name ?nx_BadClaim_line ?hgx_BadClaim ?hkx_BadClaim ?hdx_BadClaim ?hax_BadClaim ?hmx_BadClaim ?ke_BadClaim_BadRig ?ke_BadClaim_BadNumber ?ke_BadClaim_BadLines ?ke_BadClaim_UnknownPoint ?ke_BadClaim_UnknownMember ?ke_BadClaim_BadTackle ?ke_BadClaim_BadPieces ?ke_BadClaim_BadText ?ke_BadClaim_BadLine ?ke_BadClaim_NotHeld ?ke_BadClaim_BadClaim ?ke_BadClaim_NothingDone ?kv_BadClaim ?xm_BadClaim ?kle_BadClaim ?lx_BadLine ?rvx_BadLine ?sax_BadLine ?exx_BadLine ?tyx_BadLine ?kcx_BadLine ?cdx_BadLine ?mex_BadLine ?upx_BadLine ?vex_BadLine ?aix_BadLine ?lix_BadLine ?eix_BadLine ?lcx_BadLine ?ldx_BadLine ?hvx_BadLine ?hfx_BadLine ?tix_BadLine ?nx_BadLine_part ?nx_BadLine_place ?nx_BadLine_value ?nx_BadLine_name ?nx_BadLine_line ?hgx_BadLine ?hkx_BadLine ?hdx_BadLine ?hax_BadLine ?hmx_BadLine ?ke_BadLine_BadRig ?ke_BadLine_BadNumber ?ke_BadLine_BadLines ?ke_BadLine_UnknownPoint ?ke_BadLine_UnknownMember ?ke_BadLine_BadTackle ?ke_BadLine_BadPieces ?ke_BadLine_BadText ?ke_BadLine_BadLine ?ke_BadLine_NotHeld ?ke_BadLine_BadClaim ?ke_BadLine_NothingDone ?kv_BadLine ?xm_BadLine ?kle_BadLine ?lx_BadLines ?rvx_BadLines ?sax_BadLines ?exx_BadLines ?tyx_BadLines ?kcx_BadLines ?cdx_BadLines ?mex_BadLines ?upx_BadLines ?vex_BadLines ?aix_BadLines ?lix_BadLines ?eix_BadLines ?lcx_BadLines ?ldx_BadLines ?hvx_BadLines ?hfx_BadLines ?tix_BadLines ?nx_BadLines_part ?nx_BadLines_place ?nx_BadLines_value ?nx_BadLines_name ?nx_BadLines_line ?hgx_BadLines ?hkx_BadLines ?hdx_BadLines ?hax_BadLines ?hmx_BadLines ?ke_BadLines_BadRig ?ke_BadLines_BadNumber ?ke_BadLines_BadLines ?ke_BadLines_UnknownPoint ?ke_BadLines_UnknownMember ?ke_BadLines_BadTackle ?ke_BadLines_BadPieces ?ke_BadLines_BadText ?ke_BadLines_BadLine ?ke_BadLines_NotHeld ?ke_BadLines_BadClaim ?ke_BadLines_NothingDone ?kv_BadLines ?xm_BadLines ?kle_BadLines ?lx_BadNumber ?rvx_BadNumber ?sax_BadNumber ?exx_BadNumber ?tyx_BadNumber ?kcx_BadNumber ?cdx_BadNumber ?mex_BadNumber ?upx_BadNumber ?vex_BadNumber ?aix_BadNumber ?lix_BadNumber ?eix_BadNumber ?lcx_BadNumber ?ldx_BadNumber ?hvx_BadNumber ?hfx_BadNumber ?tix_BadNumber ?nx_BadNumber_part ?nx_BadNumber_place ?nx_BadNumber_value ?nx_BadNumber_name ?nx_BadNumber_line ?hgx_BadNumber ?hkx_BadNumber ?hdx_BadNumber ?hax_BadNumber ?hmx_BadNumber ?ke_BadNumber_BadRig ?ke_BadNumber_BadNumber ?ke_BadNumber_BadLines ?ke_BadNumber_UnknownPoint ?ke_BadNumber_UnknownMember ?ke_BadNumber_BadTackle ?ke_BadNumber_BadPieces ?ke_BadNumber_BadText ?ke_BadNumber_BadLine ?ke_BadNumber_NotHeld ?ke_BadNumber_BadClaim ?ke_BadNumber_NothingDone ?kv_BadNumber ?xm_BadNumber ?kle_BadNumber ?lx_BadPieces ?rvx_BadPieces ?sax_BadPieces ?exx_BadPieces ?tyx_BadPieces ?kcx_BadPieces ?cdx_BadPieces ?mex_BadPieces ?upx_BadPieces ?vex_BadPieces ?aix_BadPieces ?lix_BadPieces ?eix_BadPieces ?lcx_BadPieces ?ldx_BadPieces ?hvx_BadPieces ?hfx_BadPieces ?tix_BadPieces ?nx_BadPieces_part ?nx_BadPieces_place ?nx_BadPieces_value ?nx_BadPieces_name ?nx_BadPieces_line ?hgx_BadPieces ?hkx_BadPieces ?hdx_BadPieces ?hax_BadPieces ?hmx_BadPieces ?ke_BadPieces_BadRig ?ke_BadPieces_BadNumber ?ke_BadPieces_BadLines ?ke_BadPieces_UnknownPoint ?ke_BadPieces_UnknownMember ?ke_BadPieces_BadTackle ?ke_BadPieces_BadPieces ?ke_BadPieces_BadText ?ke_BadPieces_BadLine ?ke_BadPieces_NotHeld ?ke_BadPieces_BadClaim ?ke_BadPieces_NothingDone ?kv_BadPieces ?xm_BadPieces ?kle_BadPieces ?lx_BadRig ?rvx_BadRig ?sax_BadRig ?exx_BadRig ?tyx_BadRig ?kcx_BadRig ?cdx_BadRig ?mex_BadRig ?upx_BadRig ?vex_BadRig ?aix_BadRig ?lix_BadRig ?eix_BadRig ?lcx_BadRig ?ldx_BadRig ?hvx_BadRig ?hfx_BadRig ?tix_BadRig ?nx_BadRig_part ?nx_BadRig_place ?nx_BadRig_value ?nx_BadRig_name ?nx_BadRig_line ?hgx_BadRig ?hkx_BadRig ?hdx_BadRig ?hax_BadRig ?hmx_BadRig ?ke_BadRig_BadRig ?ke_BadRig_BadNumber ?ke_BadRig_BadLines ?ke_BadRig_UnknownPoint ?ke_BadRig_UnknownMember ?ke_BadRig_BadTackle ?ke_BadRig_BadPieces ?ke_BadRig_BadText ?ke_BadRig_BadLine ?ke_BadRig_NotHeld ?ke_BadRig_BadClaim ?ke_BadRig_NothingDone ?kv_BadRig ?xm_BadRig ?kle_BadRig ?lx_BadTackle ?rvx_BadTackle ?sax_BadTackle ?exx_BadTackle ?tyx_BadTackle ?kcx_BadTackle ?cdx_BadTackle ?mex_BadTackle ?upx_BadTackle ?vex_BadTackle ?aix_BadTackle ?lix_BadTackle ?eix_BadTackle ?lcx_BadTackle ?ldx_BadTackle ?hvx_BadTackle ?hfx_BadTackle ?tix_BadTackle ?nx_BadTackle_part ?nx_BadTackle_place ?nx_BadTackle_value ?nx_BadTackle_name ?nx_BadTackle_line ?hgx_BadTackle ?hkx_BadTackle ?hdx_BadTackle ?hax_BadTackle ?hmx_BadTackle ?ke_BadTackle_BadRig ?ke_BadTackle_BadNumber ?ke_BadTackle_BadLines ?ke_BadTackle_UnknownPoint ?ke_BadTackle_UnknownMember ?ke_BadTackle_BadTackle ?ke_BadTackle_BadPieces ?ke_BadTackle_BadText ?ke_BadTackle_BadLine ?ke_BadTackle_NotHeld ?ke_BadTackle_BadClaim ?ke_BadTackle_NothingDone ?kv_BadTackle ?xm_BadTackle ?kle_BadTackle ?lx_BadText ?rvx_BadText ?sax_BadText ?exx_BadText ?tyx_BadText ?kcx_BadText ?cdx_BadText ?mex_BadText ?upx_BadText ?vex_BadText ?aix_BadText ?lix_BadText ?eix_BadText ?lcx_BadText ?ldx_BadText ?hvx_BadText ?hfx_BadText ?tix_BadText ?nx_BadText_part ?nx_BadText_place ?nx_BadText_value ?nx_BadText_name ?nx_BadText_line ?hgx_BadText ?hkx_BadText ?hdx_BadText ?hax_BadText ?hmx_BadText ?ke_BadText_BadRig ?ke_BadText_BadNumber ?ke_BadText_BadLines ?ke_BadText_UnknownPoint ?ke_BadText_UnknownMember ?ke_BadText_BadTackle ?ke_BadText_BadPieces ?ke_BadText_BadText ?ke_BadText_BadLine ?ke_BadText_NotHeld ?ke_BadText_BadClaim ?ke_BadText_NothingDone ?kv_BadText ?xm_BadText ?kle_BadText ?lx_NotHeld ?rvx_NotHeld ?sax_NotHeld ?exx_NotHeld ?tyx_NotHeld ?kcx_NotHeld ?cdx_NotHeld ?mex_NotHeld ?upx_NotHeld ?vex_NotHeld ?aix_NotHeld ?lix_NotHeld ?eix_NotHeld ?lcx_NotHeld ?ldx_NotHeld ?hvx_NotHeld ?hfx_NotHeld ?tix_NotHeld ?nx_NotHeld_part ?nx_NotHeld_place ?nx_NotHeld_value ?nx_NotHeld_name ?nx_NotHeld_line ?hgx_NotHeld ?hkx_NotHeld ?hdx_NotHeld ?hax_NotHeld ?hmx_NotHeld ?ke_NotHeld_BadRig ?ke_NotHeld_BadNumber ?ke_NotHeld_BadLines ?ke_NotHeld_UnknownPoint ?ke_NotHeld_UnknownMember ?ke_NotHeld_BadTackle ?ke_NotHeld_BadPieces ?ke_NotHeld_BadText ?ke_NotHeld_BadLine ?ke_NotHeld_NotHeld ?ke_NotHeld_BadClaim ?ke_NotHeld_NothingDone ?kv_NotHeld ?xm_NotHeld ?kle_NotHeld ?lx_NothingDone ?rvx_NothingDone ?sax_NothingDone ?exx_NothingDone ?tyx_NothingDone ?kcx_NothingDone ?cdx_NothingDone ?mex_NothingDone ?upx_NothingDone ?vex_NothingDone ?aix_NothingDone ?lix_NothingDone ?eix_NothingDone ?lcx_NothingDone ?ldx_NothingDone ?hvx_NothingDone ?hfx_NothingDone ?tix_NothingDone ?nx_NothingDone_part ?nx_NothingDone_place ?nx_NothingDone_value ?nx_NothingDone_name ?nx_NothingDone_line ?hgx_NothingDone ?hkx_NothingDone ?hdx_NothingDone ?hax_NothingDone ?hmx_NothingDone ?ke_NothingDone_BadRig ?ke_NothingDone_BadNumber ?ke_NothingDone_BadLines ?ke_NothingDone_UnknownPoint ?ke_NothingDone_UnknownMember ?ke_NothingDone_BadTackle ?ke_NothingDone_BadPieces ?ke_NothingDone_BadText ?ke_NothingDone_BadLine ?ke_NothingDone_NotHeld ?ke_NothingDone_BadClaim ?ke_NothingDone_NothingDone ?kv_NothingDone ?xm_NothingDone ?kle_NothingDone ?lx_UnknownMember ?rvx_UnknownMember ?sax_UnknownMember ?exx_UnknownMember ?tyx_UnknownMember ?kcx_UnknownMember ?cdx_UnknownMember ?mex_UnknownMember ?upx_UnknownMember ?vex_UnknownMember ?aix_UnknownMember ?lix_UnknownMember ?eix_UnknownMember ?lcx_UnknownMember ?ldx_UnknownMember ?hvx_UnknownMember ?hfx_UnknownMember ?tix_UnknownMember ?nx_UnknownMember_part ?nx_UnknownMember_place ?nx_UnknownMember_value ?nx_UnknownMember_name ?nx_UnknownMember_line ?hgx_UnknownMember ?hkx_UnknownMember ?hdx_UnknownMember ?hax_UnknownMember ?hmx_UnknownMember ?ke_UnknownMember_BadRig ?ke_UnknownMember_BadNumber ?ke_UnknownMember_BadLines ?ke_UnknownMember_UnknownPoint ?ke_UnknownMember_UnknownMember ?ke_UnknownMember_BadTackle ?ke_UnknownMember_BadPieces ?ke_UnknownMember_BadText ?ke_UnknownMember_BadLine ?ke_UnknownMember_NotHeld ?ke_UnknownMember_BadClaim ?ke_UnknownMember_NothingDone ?kv_UnknownMember ?xm_UnknownMember ?kle_UnknownMember ?lx_UnknownPoint ?rvx_UnknownPoint ?sax_UnknownPoint ?exx_UnknownPoint ?tyx_UnknownPoint ?kcx_UnknownPoint ?cdx_UnknownPoint ?mex_UnknownPoint ?upx_UnknownPoint ?vex_UnknownPoint ?aix_UnknownPoint ?lix_UnknownPoint ?eix_UnknownPoint ?lcx_UnknownPoint ?ldx_UnknownPoint ?hvx_UnknownPoint ?hfx_UnknownPoint ?tix_UnknownPoint ?nx_UnknownPoint_part ?nx_UnknownPoint_place ?nx_UnknownPoint_value ?nx_UnknownPoint_name ?nx_UnknownPoint_line ?hgx_UnknownPoint ?hkx_UnknownPoint ?hdx_UnknownPoint ?hax_UnknownPoint ?hmx_UnknownPoint ?ke_UnknownPoint_BadRig ?ke_UnknownPoint_BadNumber ?ke_UnknownPoint_BadLines ?ke_UnknownPoint_UnknownPoint ?ke_UnknownPoint_UnknownMember ?ke_UnknownPoint_BadTackle ?ke_UnknownPoint_BadPieces ?ke_UnknownPoint_BadText ?ke_UnknownPoint_BadLine ?ke_UnknownPoint_NotHeld ?ke_UnknownPoint_BadClaim ?ke_UnknownPoint_NothingDone ?kv_UnknownPoint ?xm_UnknownPoint ?kle_UnknownPoint ?a__law_taken ?l__law_taken ?e__law_taken ?k__law_taken ?a__law_same ?l__law_same ?e__law_same ?k__law_same ?a__law_refusal ?l__law_refusal ?e__law_refusal ?k__law_refusal ?a__law_pick ?l__law_pick ?e__law_pick ?k__law_pick ?a_law ?l_law ?e_law ?k_law PD.plain_law
    (case z_ValueError => k_is)
    (case z_int => k_is)
    (case z_isinstance => k_is)
    (case z_len => k_is)
    (case z_repr => k_is)
    (case ns_super => k_is)
    (case npx => k_is)
    (case tpx => rfl)
    (case hnx => k_is)
    (case htx => k_is)
    (case gC_BadClaim => k_is)
    (case gC_BadLine => k_is)
    (case gC_BadLines => k_is)
    (case gC_BadNumber => k_is)
    (case gC_BadPieces => k_is)
    (case gC_BadRig => k_is)
    (case gC_BadTackle => k_is)
    (case gC_BadText => k_is)
    (case gC_LoftError => k_is)
    (case gC_NotHeld => k_is)
    (case gC_NothingDone => k_is)
    (case gC_UnknownMember => k_is)
    (case gC_UnknownPoint => k_is)
    (case lx_BadClaim => k_is)
    (case rvx_BadClaim => rfl)
    (case sax_BadClaim => k_is)
    (case exx_BadClaim => k_is)
    (case tyx_BadClaim => k_is)
    (case kcx_BadClaim => k_is)
    (case cdx_BadClaim => k_is)
    (case mex_BadClaim => k_is)
    (case upx_BadClaim => kernel_rfl)
    (case vex_BadClaim => k_is)
    (case aix_BadClaim => k_is)
    (case lix_BadClaim => k_is)
    (case eix_BadClaim => k_is)
    (case lcx_BadClaim => k_is)
    (case ldx_BadClaim => k_is)
    (case hvx_BadClaim => rfl)
    (case hfx_BadClaim => first | rfl | decide +kernel)
    (case tix_BadClaim => k_is)
    (case nx_BadClaim_part => k_is)
    (case nx_BadClaim_place => k_is)
    (case nx_BadClaim_value => k_is)
    (case nx_BadClaim_name => k_is)
    (case nx_BadClaim_line => k_is)
    (case hgx_BadClaim => k_is)
    (case hkx_BadClaim => k_is)
    (case hdx_BadClaim => k_is)
    (case hax_BadClaim => k_is)
    (case hmx_BadClaim => k_is)
    (case ke_BadClaim_BadRig => kernel_rfl)
    (case ke_BadClaim_BadNumber => kernel_rfl)
    (case ke_BadClaim_BadLines => kernel_rfl)
    (case ke_BadClaim_UnknownPoint => kernel_rfl)
    (case ke_BadClaim_UnknownMember => kernel_rfl)
    (case ke_BadClaim_BadTackle => kernel_rfl)
    (case ke_BadClaim_BadPieces => kernel_rfl)
    (case ke_BadClaim_BadText => kernel_rfl)
    (case ke_BadClaim_BadLine => kernel_rfl)
    (case ke_BadClaim_NotHeld => kernel_rfl)
    (case ke_BadClaim_BadClaim => kernel_rfl)
    (case ke_BadClaim_NothingDone => kernel_rfl)
    (case kv_BadClaim => kernel_rfl)
    (case xm_BadClaim => kernel_rfl)
    (case kle_BadClaim => kernel_rfl)
    (case lx_BadLine => k_is)
    (case rvx_BadLine => rfl)
    (case sax_BadLine => k_is)
    (case exx_BadLine => k_is)
    (case tyx_BadLine => k_is)
    (case kcx_BadLine => k_is)
    (case cdx_BadLine => k_is)
    (case mex_BadLine => k_is)
    (case upx_BadLine => kernel_rfl)
    (case vex_BadLine => k_is)
    (case aix_BadLine => k_is)
    (case lix_BadLine => k_is)
    (case eix_BadLine => k_is)
    (case lcx_BadLine => k_is)
    (case ldx_BadLine => k_is)
    (case hvx_BadLine => rfl)
    (case hfx_BadLine => first | rfl | decide +kernel)
    (case tix_BadLine => k_is)
    (case nx_BadLine_part => k_is)
    (case nx_BadLine_place => k_is)
    (case nx_BadLine_value => k_is)
    (case nx_BadLine_name => k_is)
    (case nx_BadLine_line => k_is)
    (case hgx_BadLine => k_is)
    (case hkx_BadLine => k_is)
    (case hdx_BadLine => k_is)
    (case hax_BadLine => k_is)
    (case hmx_BadLine => k_is)
    (case ke_BadLine_BadRig => kernel_rfl)
    (case ke_BadLine_BadNumber => kernel_rfl)
    (case ke_BadLine_BadLines => kernel_rfl)
    (case ke_BadLine_UnknownPoint => kernel_rfl)
    (case ke_BadLine_UnknownMember => kernel_rfl)
    (case ke_BadLine_BadTackle => kernel_rfl)
    (case ke_BadLine_BadPieces => kernel_rfl)
    (case ke_BadLine_BadText => kernel_rfl)
    (case ke_BadLine_BadLine => kernel_rfl)
    (case ke_BadLine_NotHeld => kernel_rfl)
    (case ke_BadLine_BadClaim => kernel_rfl)
    (case ke_BadLine_NothingDone => kernel_rfl)
    (case kv_BadLine => kernel_rfl)
    (case xm_BadLine => kernel_rfl)
    (case kle_BadLine => kernel_rfl)
    (case lx_BadLines => k_is)
    (case rvx_BadLines => rfl)
    (case sax_BadLines => k_is)
    (case exx_BadLines => k_is)
    (case tyx_BadLines => k_is)
    (case kcx_BadLines => k_is)
    (case cdx_BadLines => k_is)
    (case mex_BadLines => k_is)
    (case upx_BadLines => kernel_rfl)
    (case vex_BadLines => k_is)
    (case aix_BadLines => k_is)
    (case lix_BadLines => k_is)
    (case eix_BadLines => k_is)
    (case lcx_BadLines => k_is)
    (case ldx_BadLines => k_is)
    (case hvx_BadLines => rfl)
    (case hfx_BadLines => first | rfl | decide +kernel)
    (case tix_BadLines => k_is)
    (case nx_BadLines_part => k_is)
    (case nx_BadLines_place => k_is)
    (case nx_BadLines_value => k_is)
    (case nx_BadLines_name => k_is)
    (case nx_BadLines_line => k_is)
    (case hgx_BadLines => k_is)
    (case hkx_BadLines => k_is)
    (case hdx_BadLines => k_is)
    (case hax_BadLines => k_is)
    (case hmx_BadLines => k_is)
    (case ke_BadLines_BadRig => kernel_rfl)
    (case ke_BadLines_BadNumber => kernel_rfl)
    (case ke_BadLines_BadLines => kernel_rfl)
    (case ke_BadLines_UnknownPoint => kernel_rfl)
    (case ke_BadLines_UnknownMember => kernel_rfl)
    (case ke_BadLines_BadTackle => kernel_rfl)
    (case ke_BadLines_BadPieces => kernel_rfl)
    (case ke_BadLines_BadText => kernel_rfl)
    (case ke_BadLines_BadLine => kernel_rfl)
    (case ke_BadLines_NotHeld => kernel_rfl)
    (case ke_BadLines_BadClaim => kernel_rfl)
    (case ke_BadLines_NothingDone => kernel_rfl)
    (case kv_BadLines => kernel_rfl)
    (case xm_BadLines => kernel_rfl)
    (case kle_BadLines => kernel_rfl)
    (case lx_BadNumber => k_is)
    (case rvx_BadNumber => rfl)
    (case sax_BadNumber => k_is)
    (case exx_BadNumber => k_is)
    (case tyx_BadNumber => k_is)
    (case kcx_BadNumber => k_is)
    (case cdx_BadNumber => k_is)
    (case mex_BadNumber => k_is)
    (case upx_BadNumber => kernel_rfl)
    (case vex_BadNumber => k_is)
    (case aix_BadNumber => k_is)
    (case lix_BadNumber => k_is)
    (case eix_BadNumber => k_is)
    (case lcx_BadNumber => k_is)
    (case ldx_BadNumber => k_is)
    (case hvx_BadNumber => rfl)
    (case hfx_BadNumber => first | rfl | decide +kernel)
    (case tix_BadNumber => k_is)
    (case nx_BadNumber_part => k_is)
    (case nx_BadNumber_place => k_is)
    (case nx_BadNumber_value => k_is)
    (case nx_BadNumber_name => k_is)
    (case nx_BadNumber_line => k_is)
    (case hgx_BadNumber => k_is)
    (case hkx_BadNumber => k_is)
    (case hdx_BadNumber => k_is)
    (case hax_BadNumber => k_is)
    (case hmx_BadNumber => k_is)
    (case ke_BadNumber_BadRig => kernel_rfl)
    (case ke_BadNumber_BadNumber => kernel_rfl)
    (case ke_BadNumber_BadLines => kernel_rfl)
    (case ke_BadNumber_UnknownPoint => kernel_rfl)
    (case ke_BadNumber_UnknownMember => kernel_rfl)
    (case ke_BadNumber_BadTackle => kernel_rfl)
    (case ke_BadNumber_BadPieces => kernel_rfl)
    (case ke_BadNumber_BadText => kernel_rfl)
    (case ke_BadNumber_BadLine => kernel_rfl)
    (case ke_BadNumber_NotHeld => kernel_rfl)
    (case ke_BadNumber_BadClaim => kernel_rfl)
    (case ke_BadNumber_NothingDone => kernel_rfl)
    (case kv_BadNumber => kernel_rfl)
    (case xm_BadNumber => kernel_rfl)
    (case kle_BadNumber => kernel_rfl)
    (case lx_BadPieces => k_is)
    (case rvx_BadPieces => rfl)
    (case sax_BadPieces => k_is)
    (case exx_BadPieces => k_is)
    (case tyx_BadPieces => k_is)
    (case kcx_BadPieces => k_is)
    (case cdx_BadPieces => k_is)
    (case mex_BadPieces => k_is)
    (case upx_BadPieces => kernel_rfl)
    (case vex_BadPieces => k_is)
    (case aix_BadPieces => k_is)
    (case lix_BadPieces => k_is)
    (case eix_BadPieces => k_is)
    (case lcx_BadPieces => k_is)
    (case ldx_BadPieces => k_is)
    (case hvx_BadPieces => rfl)
    (case hfx_BadPieces => first | rfl | decide +kernel)
    (case tix_BadPieces => k_is)
    (case nx_BadPieces_part => k_is)
    (case nx_BadPieces_place => k_is)
    (case nx_BadPieces_value => k_is)
    (case nx_BadPieces_name => k_is)
    (case nx_BadPieces_line => k_is)
    (case hgx_BadPieces => k_is)
    (case hkx_BadPieces => k_is)
    (case hdx_BadPieces => k_is)
    (case hax_BadPieces => k_is)
    (case hmx_BadPieces => k_is)
    (case ke_BadPieces_BadRig => kernel_rfl)
    (case ke_BadPieces_BadNumber => kernel_rfl)
    (case ke_BadPieces_BadLines => kernel_rfl)
    (case ke_BadPieces_UnknownPoint => kernel_rfl)
    (case ke_BadPieces_UnknownMember => kernel_rfl)
    (case ke_BadPieces_BadTackle => kernel_rfl)
    (case ke_BadPieces_BadPieces => kernel_rfl)
    (case ke_BadPieces_BadText => kernel_rfl)
    (case ke_BadPieces_BadLine => kernel_rfl)
    (case ke_BadPieces_NotHeld => kernel_rfl)
    (case ke_BadPieces_BadClaim => kernel_rfl)
    (case ke_BadPieces_NothingDone => kernel_rfl)
    (case kv_BadPieces => kernel_rfl)
    (case xm_BadPieces => kernel_rfl)
    (case kle_BadPieces => kernel_rfl)
    (case lx_BadRig => k_is)
    (case rvx_BadRig => rfl)
    (case sax_BadRig => k_is)
    (case exx_BadRig => k_is)
    (case tyx_BadRig => k_is)
    (case kcx_BadRig => k_is)
    (case cdx_BadRig => k_is)
    (case mex_BadRig => k_is)
    (case upx_BadRig => kernel_rfl)
    (case vex_BadRig => k_is)
    (case aix_BadRig => k_is)
    (case lix_BadRig => k_is)
    (case eix_BadRig => k_is)
    (case lcx_BadRig => k_is)
    (case ldx_BadRig => k_is)
    (case hvx_BadRig => rfl)
    (case hfx_BadRig => first | rfl | decide +kernel)
    (case tix_BadRig => k_is)
    (case nx_BadRig_part => k_is)
    (case nx_BadRig_place => k_is)
    (case nx_BadRig_value => k_is)
    (case nx_BadRig_name => k_is)
    (case nx_BadRig_line => k_is)
    (case hgx_BadRig => k_is)
    (case hkx_BadRig => k_is)
    (case hdx_BadRig => k_is)
    (case hax_BadRig => k_is)
    (case hmx_BadRig => k_is)
    (case ke_BadRig_BadRig => kernel_rfl)
    (case ke_BadRig_BadNumber => kernel_rfl)
    (case ke_BadRig_BadLines => kernel_rfl)
    (case ke_BadRig_UnknownPoint => kernel_rfl)
    (case ke_BadRig_UnknownMember => kernel_rfl)
    (case ke_BadRig_BadTackle => kernel_rfl)
    (case ke_BadRig_BadPieces => kernel_rfl)
    (case ke_BadRig_BadText => kernel_rfl)
    (case ke_BadRig_BadLine => kernel_rfl)
    (case ke_BadRig_NotHeld => kernel_rfl)
    (case ke_BadRig_BadClaim => kernel_rfl)
    (case ke_BadRig_NothingDone => kernel_rfl)
    (case kv_BadRig => kernel_rfl)
    (case xm_BadRig => kernel_rfl)
    (case kle_BadRig => kernel_rfl)
    (case lx_BadTackle => k_is)
    (case rvx_BadTackle => rfl)
    (case sax_BadTackle => k_is)
    (case exx_BadTackle => k_is)
    (case tyx_BadTackle => k_is)
    (case kcx_BadTackle => k_is)
    (case cdx_BadTackle => k_is)
    (case mex_BadTackle => k_is)
    (case upx_BadTackle => kernel_rfl)
    (case vex_BadTackle => k_is)
    (case aix_BadTackle => k_is)
    (case lix_BadTackle => k_is)
    (case eix_BadTackle => k_is)
    (case lcx_BadTackle => k_is)
    (case ldx_BadTackle => k_is)
    (case hvx_BadTackle => rfl)
    (case hfx_BadTackle => first | rfl | decide +kernel)
    (case tix_BadTackle => k_is)
    (case nx_BadTackle_part => k_is)
    (case nx_BadTackle_place => k_is)
    (case nx_BadTackle_value => k_is)
    (case nx_BadTackle_name => k_is)
    (case nx_BadTackle_line => k_is)
    (case hgx_BadTackle => k_is)
    (case hkx_BadTackle => k_is)
    (case hdx_BadTackle => k_is)
    (case hax_BadTackle => k_is)
    (case hmx_BadTackle => k_is)
    (case ke_BadTackle_BadRig => kernel_rfl)
    (case ke_BadTackle_BadNumber => kernel_rfl)
    (case ke_BadTackle_BadLines => kernel_rfl)
    (case ke_BadTackle_UnknownPoint => kernel_rfl)
    (case ke_BadTackle_UnknownMember => kernel_rfl)
    (case ke_BadTackle_BadTackle => kernel_rfl)
    (case ke_BadTackle_BadPieces => kernel_rfl)
    (case ke_BadTackle_BadText => kernel_rfl)
    (case ke_BadTackle_BadLine => kernel_rfl)
    (case ke_BadTackle_NotHeld => kernel_rfl)
    (case ke_BadTackle_BadClaim => kernel_rfl)
    (case ke_BadTackle_NothingDone => kernel_rfl)
    (case kv_BadTackle => kernel_rfl)
    (case xm_BadTackle => kernel_rfl)
    (case kle_BadTackle => kernel_rfl)
    (case lx_BadText => k_is)
    (case rvx_BadText => rfl)
    (case sax_BadText => k_is)
    (case exx_BadText => k_is)
    (case tyx_BadText => k_is)
    (case kcx_BadText => k_is)
    (case cdx_BadText => k_is)
    (case mex_BadText => k_is)
    (case upx_BadText => kernel_rfl)
    (case vex_BadText => k_is)
    (case aix_BadText => k_is)
    (case lix_BadText => k_is)
    (case eix_BadText => k_is)
    (case lcx_BadText => k_is)
    (case ldx_BadText => k_is)
    (case hvx_BadText => rfl)
    (case hfx_BadText => first | rfl | decide +kernel)
    (case tix_BadText => k_is)
    (case nx_BadText_part => k_is)
    (case nx_BadText_place => k_is)
    (case nx_BadText_value => k_is)
    (case nx_BadText_name => k_is)
    (case nx_BadText_line => k_is)
    (case hgx_BadText => k_is)
    (case hkx_BadText => k_is)
    (case hdx_BadText => k_is)
    (case hax_BadText => k_is)
    (case hmx_BadText => k_is)
    (case ke_BadText_BadRig => kernel_rfl)
    (case ke_BadText_BadNumber => kernel_rfl)
    (case ke_BadText_BadLines => kernel_rfl)
    (case ke_BadText_UnknownPoint => kernel_rfl)
    (case ke_BadText_UnknownMember => kernel_rfl)
    (case ke_BadText_BadTackle => kernel_rfl)
    (case ke_BadText_BadPieces => kernel_rfl)
    (case ke_BadText_BadText => kernel_rfl)
    (case ke_BadText_BadLine => kernel_rfl)
    (case ke_BadText_NotHeld => kernel_rfl)
    (case ke_BadText_BadClaim => kernel_rfl)
    (case ke_BadText_NothingDone => kernel_rfl)
    (case kv_BadText => kernel_rfl)
    (case xm_BadText => kernel_rfl)
    (case kle_BadText => kernel_rfl)
    (case lx_NotHeld => k_is)
    (case rvx_NotHeld => rfl)
    (case sax_NotHeld => k_is)
    (case exx_NotHeld => k_is)
    (case tyx_NotHeld => k_is)
    (case kcx_NotHeld => k_is)
    (case cdx_NotHeld => k_is)
    (case mex_NotHeld => k_is)
    (case upx_NotHeld => kernel_rfl)
    (case vex_NotHeld => k_is)
    (case aix_NotHeld => k_is)
    (case lix_NotHeld => k_is)
    (case eix_NotHeld => k_is)
    (case lcx_NotHeld => k_is)
    (case ldx_NotHeld => k_is)
    (case hvx_NotHeld => rfl)
    (case hfx_NotHeld => first | rfl | decide +kernel)
    (case tix_NotHeld => k_is)
    (case nx_NotHeld_part => k_is)
    (case nx_NotHeld_place => k_is)
    (case nx_NotHeld_value => k_is)
    (case nx_NotHeld_name => k_is)
    (case nx_NotHeld_line => k_is)
    (case hgx_NotHeld => k_is)
    (case hkx_NotHeld => k_is)
    (case hdx_NotHeld => k_is)
    (case hax_NotHeld => k_is)
    (case hmx_NotHeld => k_is)
    (case ke_NotHeld_BadRig => kernel_rfl)
    (case ke_NotHeld_BadNumber => kernel_rfl)
    (case ke_NotHeld_BadLines => kernel_rfl)
    (case ke_NotHeld_UnknownPoint => kernel_rfl)
    (case ke_NotHeld_UnknownMember => kernel_rfl)
    (case ke_NotHeld_BadTackle => kernel_rfl)
    (case ke_NotHeld_BadPieces => kernel_rfl)
    (case ke_NotHeld_BadText => kernel_rfl)
    (case ke_NotHeld_BadLine => kernel_rfl)
    (case ke_NotHeld_NotHeld => kernel_rfl)
    (case ke_NotHeld_BadClaim => kernel_rfl)
    (case ke_NotHeld_NothingDone => kernel_rfl)
    (case kv_NotHeld => kernel_rfl)
    (case xm_NotHeld => kernel_rfl)
    (case kle_NotHeld => kernel_rfl)
    (case lx_NothingDone => k_is)
    (case rvx_NothingDone => rfl)
    (case sax_NothingDone => k_is)
    (case exx_NothingDone => k_is)
    (case tyx_NothingDone => k_is)
    (case kcx_NothingDone => k_is)
    (case cdx_NothingDone => k_is)
    (case mex_NothingDone => k_is)
    (case upx_NothingDone => kernel_rfl)
    (case vex_NothingDone => k_is)
    (case aix_NothingDone => k_is)
    (case lix_NothingDone => k_is)
    (case eix_NothingDone => k_is)
    (case lcx_NothingDone => k_is)
    (case ldx_NothingDone => k_is)
    (case hvx_NothingDone => rfl)
    (case hfx_NothingDone => first | rfl | decide +kernel)
    (case tix_NothingDone => k_is)
    (case nx_NothingDone_part => k_is)
    (case nx_NothingDone_place => k_is)
    (case nx_NothingDone_value => k_is)
    (case nx_NothingDone_name => k_is)
    (case nx_NothingDone_line => k_is)
    (case hgx_NothingDone => k_is)
    (case hkx_NothingDone => k_is)
    (case hdx_NothingDone => k_is)
    (case hax_NothingDone => k_is)
    (case hmx_NothingDone => k_is)
    (case ke_NothingDone_BadRig => kernel_rfl)
    (case ke_NothingDone_BadNumber => kernel_rfl)
    (case ke_NothingDone_BadLines => kernel_rfl)
    (case ke_NothingDone_UnknownPoint => kernel_rfl)
    (case ke_NothingDone_UnknownMember => kernel_rfl)
    (case ke_NothingDone_BadTackle => kernel_rfl)
    (case ke_NothingDone_BadPieces => kernel_rfl)
    (case ke_NothingDone_BadText => kernel_rfl)
    (case ke_NothingDone_BadLine => kernel_rfl)
    (case ke_NothingDone_NotHeld => kernel_rfl)
    (case ke_NothingDone_BadClaim => kernel_rfl)
    (case ke_NothingDone_NothingDone => kernel_rfl)
    (case kv_NothingDone => kernel_rfl)
    (case xm_NothingDone => kernel_rfl)
    (case kle_NothingDone => kernel_rfl)
    (case lx_UnknownMember => k_is)
    (case rvx_UnknownMember => rfl)
    (case sax_UnknownMember => k_is)
    (case exx_UnknownMember => k_is)
    (case tyx_UnknownMember => k_is)
    (case kcx_UnknownMember => k_is)
    (case cdx_UnknownMember => k_is)
    (case mex_UnknownMember => k_is)
    (case upx_UnknownMember => kernel_rfl)
    (case vex_UnknownMember => k_is)
    (case aix_UnknownMember => k_is)
    (case lix_UnknownMember => k_is)
    (case eix_UnknownMember => k_is)
    (case lcx_UnknownMember => k_is)
    (case ldx_UnknownMember => k_is)
    (case hvx_UnknownMember => rfl)
    (case hfx_UnknownMember => first | rfl | decide +kernel)
    (case tix_UnknownMember => k_is)
    (case nx_UnknownMember_part => k_is)
    (case nx_UnknownMember_place => k_is)
    (case nx_UnknownMember_value => k_is)
    (case nx_UnknownMember_name => k_is)
    (case nx_UnknownMember_line => k_is)
    (case hgx_UnknownMember => k_is)
    (case hkx_UnknownMember => k_is)
    (case hdx_UnknownMember => k_is)
    (case hax_UnknownMember => k_is)
    (case hmx_UnknownMember => k_is)
    (case ke_UnknownMember_BadRig => kernel_rfl)
    (case ke_UnknownMember_BadNumber => kernel_rfl)
    (case ke_UnknownMember_BadLines => kernel_rfl)
    (case ke_UnknownMember_UnknownPoint => kernel_rfl)
    (case ke_UnknownMember_UnknownMember => kernel_rfl)
    (case ke_UnknownMember_BadTackle => kernel_rfl)
    (case ke_UnknownMember_BadPieces => kernel_rfl)
    (case ke_UnknownMember_BadText => kernel_rfl)
    (case ke_UnknownMember_BadLine => kernel_rfl)
    (case ke_UnknownMember_NotHeld => kernel_rfl)
    (case ke_UnknownMember_BadClaim => kernel_rfl)
    (case ke_UnknownMember_NothingDone => kernel_rfl)
    (case kv_UnknownMember => kernel_rfl)
    (case xm_UnknownMember => kernel_rfl)
    (case kle_UnknownMember => kernel_rfl)
    (case lx_UnknownPoint => k_is)
    (case rvx_UnknownPoint => rfl)
    (case sax_UnknownPoint => k_is)
    (case exx_UnknownPoint => k_is)
    (case tyx_UnknownPoint => k_is)
    (case kcx_UnknownPoint => k_is)
    (case cdx_UnknownPoint => k_is)
    (case mex_UnknownPoint => k_is)
    (case upx_UnknownPoint => kernel_rfl)
    (case vex_UnknownPoint => k_is)
    (case aix_UnknownPoint => k_is)
    (case lix_UnknownPoint => k_is)
    (case eix_UnknownPoint => k_is)
    (case lcx_UnknownPoint => k_is)
    (case ldx_UnknownPoint => k_is)
    (case hvx_UnknownPoint => rfl)
    (case hfx_UnknownPoint => first | rfl | decide +kernel)
    (case tix_UnknownPoint => k_is)
    (case nx_UnknownPoint_part => k_is)
    (case nx_UnknownPoint_place => k_is)
    (case nx_UnknownPoint_value => k_is)
    (case nx_UnknownPoint_name => k_is)
    (case nx_UnknownPoint_line => k_is)
    (case hgx_UnknownPoint => k_is)
    (case hkx_UnknownPoint => k_is)
    (case hdx_UnknownPoint => k_is)
    (case hax_UnknownPoint => k_is)
    (case hmx_UnknownPoint => k_is)
    (case ke_UnknownPoint_BadRig => kernel_rfl)
    (case ke_UnknownPoint_BadNumber => kernel_rfl)
    (case ke_UnknownPoint_BadLines => kernel_rfl)
    (case ke_UnknownPoint_UnknownPoint => kernel_rfl)
    (case ke_UnknownPoint_UnknownMember => kernel_rfl)
    (case ke_UnknownPoint_BadTackle => kernel_rfl)
    (case ke_UnknownPoint_BadPieces => kernel_rfl)
    (case ke_UnknownPoint_BadText => kernel_rfl)
    (case ke_UnknownPoint_BadLine => kernel_rfl)
    (case ke_UnknownPoint_NotHeld => kernel_rfl)
    (case ke_UnknownPoint_BadClaim => kernel_rfl)
    (case ke_UnknownPoint_NothingDone => kernel_rfl)
    (case kv_UnknownPoint => kernel_rfl)
    (case xm_UnknownPoint => kernel_rfl)
    (case kle_UnknownPoint => kernel_rfl)
    (case a__law_taken => k_is)
    (case l__law_taken => k_is)
    (case e__law_taken => k_is)
    (case k__law_taken => k_is)
    (case a__law_same => k_is)
    (case l__law_same => k_is)
    (case e__law_same => k_is)
    (case k__law_same => k_is)
    (case a__law_refusal => k_is)
    (case l__law_refusal => k_is)
    (case e__law_refusal => k_is)
    (case k__law_refusal => k_is)
    (case a__law_pick => k_is)
    (case l__law_pick => k_is)
    (case e__law_pick => k_is)
    (case k__law_pick => k_is)
    (case a_law => k_is)
    (case l_law => k_is)
    (case e_law => k_is)
    (case k_law => k_is)

