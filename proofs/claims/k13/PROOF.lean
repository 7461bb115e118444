import PyProof.Rows.All
import Wide.All
import OpenK.AllK
import Wide.FinOn
import HandS.Base
import HandS.WordsExc
import HandS.Wide
import HandS.Lambda
import HandS.TupAny
import HandS.TupMul
import HandS.TupLe
import HandS.Deep
import HandS.IsInst
import HandS.Style
import KE.SortData
import KE.DataCmp
import HandS.Walk
import HandS.Zip
import HandS.Conv
import KE.GoesEnum
import HandS.Small
import HandS.Nested
import HandS.SortKw
import HandS.CallLocal
import HandS.DictComp
import HandS.EndTab
import KE.KNestM
import KE.KTupSum
import KE.SortLaws
import PySem.Challenge.RW_ropeloft_k13_whole_fewest_coils
set_option Elab.async false
set_option linter.all false
set_option maxRecDepth 100000
/-! PD1: plain data D for Python values, what stands for it in the abstract heap, the slots of a frame. -/
namespace PD
open PySem PySem.Spec PyProof.Rows L2

/-- plain data -/
inductive D where
  | non | bl (b : Bool) | int (i : Int) | str (s : Str)
  | tup (xs : List D) | lst (xs : List D)
  | dic (ks : List Key) (vs : List D) | dit (ks : List (List Key)) (vs : List D)
  | ins (c : Str) (ns : List Str) (vs : List D)
  | fn (f : Str)
  /-- the script -/
  | scr (xs : List Int)
  deriving Inhabited

/-- what the text's top has left: written part, names of the module, tables of code objects -/
structure Zt where
  K : PySem.W.Frag
  mg : Str → Option Value
  T : List (Addr × Str)

def KTup (K : PySem.W.Frag) (a : Addr) (xs : List V) : Prop :=
  ∃ (o : Obj) (its : Array Value) (n : Nat), K.lookup a = some o ∧ o.cls = .type "tuple" ∧ o.data = .seq its n ∧ its.size ≤ sizeLine ∧ Vals xs its.toList
/-- a tuple that is read -/
def TupR (K : PySem.W.Frag) (X : Addr → Prop) (H : Hp) (a : Addr) (xs : List V) : Prop := (¬ X a ∧ H a = some (.tup xs)) ∨ KTup K a xs
theorem TupR.sq {K : PySem.W.Frag} {X : Addr → Prop} {H : Hp} {a : Addr} {xs : List V} (h : TupR K X H a xs) : SqT K H a xs := h.elim (fun h => .inl (.inl h.2)) .inr

/-- a list of the text's top -/
def KLst (K : PySem.W.Frag) (a : Addr) (xs : List V) : Prop :=
  ∃ (o : Obj) (its : Array Value) (n : Nat), K.lookup a = some o ∧ o.cls = .type "list" ∧ o.dict = none ∧ o.data = .seq its n ∧ its.size ≤ sizeLine ∧ Vals xs its.toList
def SclR (K : PySem.W.Frag) (X : Addr → Prop) (H : Hp) (a : Addr) (xs : List V) : Prop := (¬ X a ∧ Rd H a (.lst xs)) ∨ KLst K a xs
theorem SclR.sq {K : PySem.W.Frag} {X : Addr → Prop} {H : Hp} {a : Addr} {xs : List V} (h : SclR K X H a xs) : SqL K H a xs := h.elim (fun h => .inl h.2) .inr

mutual
/-- the value v stands for d; no object in X is reached -/
def Rep (Z : Zt) (X : Addr → Prop) (H : Hp) : D → V → Prop
  | .non, v => v = .non
  | .bl b, v => v = .bl b
  | .int i, v => v = .int i
  | .str s, v => v = .str s
  | .tup ds, v => ∃ a vs, v = .ref a ∧ TupR Z.K X H a vs ∧ RepL Z X H ds vs
  | .lst ds, v => ∃ a vs, v = .ref a ∧ ¬ X a ∧ H a = some (.lst vs) ∧ RepL Z X H ds vs
  | .dic ks ds, v => ∃ a vs, v = .ref a ∧ ¬ X a ∧ ks.length = vs.length ∧ H a = some (.dK (ks.zip vs)) ∧ RepL Z X H ds vs
  | .dit ks ds, v => ∃ a vs, v = .ref a ∧ ¬ X a ∧ ks.length = vs.length ∧ H a = some (.dT (ks.zip vs)) ∧ RepL Z X H ds vs
  | .ins c ns ds, v => ∃ a C dx vs, v = .ref a ∧ ¬ X a ∧ ns.length = vs.length ∧ Z.mg c = some (.ref C) ∧ H a = some (.ins C dx (ns.zip vs)) ∧ RepL Z X H ds vs
  | .fn f, v => ∃ a, v = .ref a ∧ Z.mg f = some (.ref a)
  | .scr xs, v => ∃ a, v = .ref a ∧ SclR Z.K X H a (xs.map V.int)
def RepL (Z : Zt) (X : Addr → Prop) (H : Hp) : List D → List V → Prop
  | [], vs => vs = []
  | d :: ds, vs => ∃ v vr, vs = v :: vr ∧ Rep Z X H d v ∧ RepL Z X H ds vr
end

/-- the heap goes on: what lies outside X is kept (but the tables of code objects), what is in X' was in X or is new; the tables stay tables -/
structure Fw (Z : Zt) (X : Addr → Prop) (H : Hp) (X' : Addr → Prop) (H' : Hp) : Prop where
  keep : ∀ a o, H a = some o → ¬ X a → (∀ ps, o ≠ .tbl ps) → H' a = some o
  ktbl : ∀ a ps, H a = some (.tbl ps) → ∃ qs, H' a = some (.tbl qs)
  new : ∀ a, X' a → X a ∨ H a = none
  tabs : LamX.Tabs Z.T H → LamX.Tabs Z.T H'
theorem Fw.refl {Z : Zt} {X : Addr → Prop} {H : Hp} : Fw Z X H X H := ⟨fun _ _ h _ _ => h, fun _ ps h => ⟨ps, h⟩, fun _ h => .inl h, fun h => h⟩
theorem Fw.trans {Z : Zt} {X X1 X2 : Addr → Prop} {H H1 H2 : Hp} (f : Fw Z X H X1 H1) (g : Fw Z X1 H1 X2 H2) : Fw Z X H X2 H2 := by
  refine ⟨fun a o h n t => g.keep a o (f.keep a o h n t) (fun h1 => ?_) t, fun a ps h => ?_, fun a h2 => ?_, fun h => g.tabs (f.tabs h)⟩
  · rcases f.new a h1 with q | q
    · exact n q
    · rw [q] at h; cases h
  · obtain ⟨qs, e⟩ := f.ktbl a ps h
    exact g.ktbl a qs e
  · rcases g.new a h2 with q | q
    · exact f.new a q
    · by_cases hx : X a
      · exact .inl hx
      · cases e : H a with
        | none => exact .inr rfl
        | some o =>
          by_cases ht : ∃ ps, o = .tbl ps
          · obtain ⟨ps, rfl⟩ := ht
            obtain ⟨qs, e2⟩ := f.ktbl a ps e
            rw [e2] at q; cases q
          · rw [f.keep a o e hx (fun ps z => ht ⟨ps, z⟩)] at q; cases q
theorem Fw.same {Z : Zt} {X : Addr → Prop} {H H' : Hp} (s : Same H H') : Fw Z X H X H' :=
  ⟨fun a o h _ _ => s a o h, fun a ps h => ⟨ps, s a _ h⟩, fun _ h => .inl h, fun h => h.ext s⟩
/-- fewer are forbidden behind -/
theorem Fw.less {Z : Zt} {X X1 X2 : Addr → Prop} {H H' : Hp} (f : Fw Z X H X1 H') (h : ∀ a, X2 a → X1 a) : Fw Z X H X2 H' := ⟨f.keep, f.ktbl, fun a q => f.new a (h a q), f.tabs⟩

theorem at_keep {Z : Zt} {X X' : Addr → Prop} {H H' : Hp} (f : Fw Z X H X' H') {a : Addr} {u : HO} (n : ¬ X a) (h : H a = some u) (ht : ∀ ps, u ≠ .tbl ps) : H' a = some u ∧ ¬ X' a := by
  refine ⟨f.keep a u h n ht, fun q => ?_⟩
  rcases f.new a q with q | q
  · exact n q
  · rw [q] at h; cases h
theorem rd_keep {Z : Zt} {X X' : Addr → Prop} {H H' : Hp} (f : Fw Z X H X' H') {a : Addr} {u : HO} (n : ¬ X a) (h : Rd H a u) (ht : ∀ ps, u ≠ .tbl ps) : Rd H' a u ∧ ¬ X' a := by
  have ne : ∀ o, H a = some o → ¬ X' a := fun o e q => by
    rcases f.new a q with q | q
    · exact n q
    · rw [q] at e; cases e
  rcases h with h | ⟨o, h⟩
  · exact ⟨.inl (f.keep a u h n ht), ne _ h⟩
  · exact ⟨.inr ⟨o, f.keep a _ h n (fun ps z => by cases z)⟩, ne _ h⟩

mutual
theorem Rep.mono {Z : Zt} {X X' : Addr → Prop} {H H' : Hp} (f : Fw Z X H X' H') : ∀ (d : D) (v : V), Rep Z X H d v → Rep Z X' H' d v
  | .non, _, h => by simpa only [Rep] using h
  | .bl _, _, h => by simpa only [Rep] using h
  | .int _, _, h => by simpa only [Rep] using h
  | .str _, _, h => by simpa only [Rep] using h
  | .tup ds, v, h => by
    simp only [Rep] at h ⊢
    obtain ⟨a, vs, e, t, r⟩ := h
    refine ⟨a, vs, e, ?_, RepL.mono f ds vs r⟩
    rcases t with ⟨n, t⟩ | t
    · exact .inl ((at_keep f n t (fun ps z => by cases z)).symm)
    · exact .inr t
  | .lst ds, v, h => by
    simp only [Rep] at h ⊢
    obtain ⟨a, vs, e, n, t, r⟩ := h
    have q := at_keep f n t (fun ps z => by cases z)
    exact ⟨a, vs, e, q.2, q.1, RepL.mono f ds vs r⟩
  | .dic ks ds, v, h => by
    simp only [Rep] at h ⊢
    obtain ⟨a, vs, e, n, hl, t, r⟩ := h
    have q := at_keep f n t (fun ps z => by cases z)
    exact ⟨a, vs, e, q.2, hl, q.1, RepL.mono f ds vs r⟩
  | .dit ks ds, v, h => by
    simp only [Rep] at h ⊢
    obtain ⟨a, vs, e, n, hl, t, r⟩ := h
    have q := at_keep f n t (fun ps z => by cases z)
    exact ⟨a, vs, e, q.2, hl, q.1, RepL.mono f ds vs r⟩
  | .ins c ns ds, v, h => by
    simp only [Rep] at h ⊢
    obtain ⟨a, C, dx, vs, e, n, hl, hm, t, r⟩ := h
    refine ⟨a, C, dx, vs, e, fun q => ?_, hl, hm, f.keep a _ t n (fun ps z => by cases z), RepL.mono f ds vs r⟩
    rcases f.new a q with q | q
    · exact n q
    · rw [q] at t; cases t
  | .fn _, _, h => by simpa only [Rep] using h
  | .scr xs, v, h => by
    simp only [Rep] at h ⊢
    obtain ⟨a, e, t⟩ := h
    refine ⟨a, e, ?_⟩
    rcases t with ⟨n, t⟩ | t
    · exact .inl (rd_keep f n t (fun ps z => by cases z)).symm
    · exact .inr t
theorem RepL.mono {Z : Zt} {X X' : Addr → Prop} {H H' : Hp} (f : Fw Z X H X' H') : ∀ (ds : List D) (vs : List V), RepL Z X H ds vs → RepL Z X' H' ds vs
  | [], _, h => by simpa only [RepL] using h
  | d :: ds, vs, h => by
    simp only [RepL] at h ⊢
    obtain ⟨v, vr, e, r, rr⟩ := h
    exact ⟨v, vr, e, Rep.mono f d v r, RepL.mono f ds vr rr⟩
end
end PD

set_option linter.all false
set_option maxRecDepth 100000
/-! PD2: own objects, slots, the relation between the slots' data and the state. -/
namespace PD
open PySem PySem.Spec PyProof.Rows L2

/-- a field of an own instance: data, or an own list -/
inductive Fd where
  | d (x : D) | l (xs : List D)
/-- an own object (reached by one slot alone) -/
inductive O where
  | lst (ds : List D) | dic (ks : List Key) (vs : List D) | dit (ks : List (List Key)) (vs : List D)
  | ins (c : Str) (ns : List Str) (fs : List Fd)
def Fd.toD : Fd → D
  | .d x => x
  | .l xs => .lst xs
def O.toD : O → D
  | .lst ds => .lst ds
  | .dic ks vs => .dic ks vs
  | .dit ks vs => .dit ks vs
  | .ins c ns fs => .ins c ns (fs.map Fd.toD)

def FdL (Z : Zt) (X : Addr → Prop) (H : Hp) : List Fd → List V → List Addr → Prop
  | [], vs, As => vs = [] ∧ As = []
  | .d x :: fs, vs, As => ∃ v vr, vs = v :: vr ∧ Rep Z X H x v ∧ FdL Z X H fs vr As
  | .l ds :: fs, vs, As => ∃ a vr ws Ar, vs = .ref a :: vr ∧ As = a :: Ar ∧ H a = some (.lst ws) ∧ RepL Z X H ds ws ∧ FdL Z X H fs vr Ar
def OwnRep (Z : Zt) (X : Addr → Prop) (H : Hp) : O → V → List Addr → Prop
  | .lst ds, v, L => ∃ a vs, v = .ref a ∧ L = [a] ∧ H a = some (.lst vs) ∧ RepL Z X H ds vs
  | .dic ks ds, v, L => ∃ a vs, v = .ref a ∧ L = [a] ∧ ks.length = vs.length ∧ H a = some (.dK (ks.zip vs)) ∧ RepL Z X H ds vs
  | .dit ks ds, v, L => ∃ a vs, v = .ref a ∧ L = [a] ∧ ks.length = vs.length ∧ H a = some (.dT (ks.zip vs)) ∧ RepL Z X H ds vs
  | .ins c ns fs, v, L => ∃ a C dx vs As, v = .ref a ∧ L = a :: As ∧ ns.length = vs.length ∧ Z.mg c = some (.ref C) ∧ H a = some (.ins C dx (ns.zip vs)) ∧ FdL Z X H fs vs As

theorem FdL.mono {Z : Zt} {X X' : Addr → Prop} {H H' : Hp} (f : Fw Z X H X' H') : ∀ (fs : List Fd) (vs : List V) (As : List Addr), (∀ a ∈ As, H' a = H a) → FdL Z X H fs vs As → FdL Z X' H' fs vs As
  | [], _, _, _, h => h
  | .d x :: fs, vs, As, k, h => by
    obtain ⟨v, vr, e, r, h⟩ := h
    exact ⟨v, vr, e, r.mono f, FdL.mono f fs vr As k h⟩
  | .l ds :: fs, vs, As, k, h => by
    obtain ⟨a, vr, ws, Ar, e, e2, e3, r, h⟩ := h
    subst e2
    exact ⟨a, vr, ws, Ar, e, rfl, by rw [k a List.mem_cons_self]; exact e3, r.mono f, FdL.mono f fs vr Ar (fun b hb => k b (List.mem_cons_of_mem _ hb)) h⟩
theorem OwnRep.mono {Z : Zt} {X X' : Addr → Prop} {H H' : Hp} (f : Fw Z X H X' H') : ∀ {o : O} {v : V} {L : List Addr}, (∀ a ∈ L, H' a = H a) → OwnRep Z X H o v L → OwnRep Z X' H' o v L
  | .lst ds, v, L, k, h => by
    obtain ⟨a, vs, e, rfl, e3, r⟩ := h
    exact ⟨a, vs, e, rfl, by rw [k a (by simp)]; exact e3, r.mono f⟩
  | .dic ks ds, v, L, k, h => by
    obtain ⟨a, vs, e, rfl, hl, e3, r⟩ := h
    exact ⟨a, vs, e, rfl, hl, by rw [k a (by simp)]; exact e3, r.mono f⟩
  | .dit ks ds, v, L, k, h => by
    obtain ⟨a, vs, e, rfl, hl, e3, r⟩ := h
    exact ⟨a, vs, e, rfl, hl, by rw [k a (by simp)]; exact e3, r.mono f⟩
  | .ins c ns fs, v, L, k, h => by
    obtain ⟨a, C, dx, vs, As, e, rfl, hl, hm, e3, r⟩ := h
    exact ⟨a, C, dx, vs, As, e, rfl, hl, hm, by rw [k a (by simp)]; exact e3, r.mono f _ _ _ (fun b hb => k b (List.mem_cons_of_mem _ hb))⟩
theorem FdL.there {Z : Zt} {X : Addr → Prop} {H : Hp} : ∀ {fs : List Fd} {vs : List V} {As : List Addr}, FdL Z X H fs vs As → ∀ a ∈ As, H a ≠ none
  | [], _, _, h, a, ha => by rw [h.2] at ha; cases ha
  | .d x :: fs, vs, As, h, a, ha => by
    obtain ⟨v, vr, e, r, h⟩ := h
    exact h.there a ha
  | .l ds :: fs, vs, As, h, a, ha => by
    obtain ⟨b, vr, ws, Ar, e, e2, e3, r, h⟩ := h
    subst e2
    rcases List.mem_cons.mp ha with rfl | ha
    · rw [e3]; simp
    · exact h.there a ha
theorem OwnRep.there {Z : Zt} {X : Addr → Prop} {H : Hp} : ∀ {o : O} {v : V} {L : List Addr}, OwnRep Z X H o v L → ∀ a ∈ L, H a ≠ none
  | .lst ds, v, L, h, b, hb => by
    obtain ⟨a, vs, e, rfl, e3, r⟩ := h
    have := List.mem_singleton.mp hb; subst this; rw [e3]; simp
  | .dic ks ds, v, L, h, b, hb => by
    obtain ⟨a, vs, e, rfl, hl, e3, r⟩ := h
    have := List.mem_singleton.mp hb; subst this; rw [e3]; simp
  | .dit ks ds, v, L, h, b, hb => by
    obtain ⟨a, vs, e, rfl, hl, e3, r⟩ := h
    have := List.mem_singleton.mp hb; subst this; rw [e3]; simp
  | .ins c ns fs, v, L, h, b, hb => by
    obtain ⟨a, C, dx, vs, As, e, rfl, hl, hm, e3, r⟩ := h
    rcases List.mem_cons.mp hb with rfl | hb
    · rw [e3]; simp
    · exact r.there b hb

theorem OwnRep.noext {Z : Zt} {X : Addr → Prop} {H : Hp} {o : O} {v : V} {L : List Addr} (r : OwnRep Z X H o v L) {a : Addr} (hj : a ∈ L) {φ : Heap → Prop} (h : H a = some (.ext φ)) : False := by
  have fdl : ∀ (fs : List Fd) (vs : List V) (As : List Addr), FdL Z X H fs vs As → a ∉ As := by
    intro fs
    induction fs with
    | nil => intro vs As h h2; rw [h.2] at h2; cases h2
    | cons f fs ih =>
      intro vs As h2 h3
      cases f with
      | d x =>
        obtain ⟨_, vr, _, _, h2⟩ := h2
        exact ih vr As h2 h3
      | l ds =>
        obtain ⟨b, vr, ws, Ar, _, e2, e3, _, h2⟩ := h2
        subst e2
        rcases List.mem_cons.mp h3 with z | z
        · rw [z, e3] at h; cases h
        · exact ih vr Ar h2 z
  cases o with
  | lst ds =>
    obtain ⟨b, vs, _, e2, e3, _⟩ := r
    rw [e2] at hj
    rw [List.mem_singleton.mp hj, e3] at h; cases h
  | dic ks ds =>
    obtain ⟨b, vs, _, e2, _, e3, _⟩ := r
    rw [e2] at hj
    rw [List.mem_singleton.mp hj, e3] at h; cases h
  | dit ks ds =>
    obtain ⟨b, vs, _, e2, _, e3, _⟩ := r
    rw [e2] at hj
    rw [List.mem_singleton.mp hj, e3] at h; cases h
  | ins c ns fs =>
    obtain ⟨b, C, dx, vs, As, _, e2, _, _, e3, r⟩ := r
    rw [e2] at hj
    rcases List.mem_cons.mp hj with z | z
    · rw [z, e3] at h; cases h
    · exact fdl _ _ _ r z
def Ext (o : HO) : Prop := ∃ φ, o = .ext φ
/-- a slot of a frame -/
inductive Sl where
  | no | fz (d : D) | ow (o : O)
abbrev S := List Sl
def SloR (Z : Zt) (X : Addr → Prop) (H : Hp) : Sl → Option (Option V) → List Addr → Prop
  | .no, _, L => L = []
  | .fz d, ov, L => L = [] ∧ ∃ v, ov = some (some v) ∧ Rep Z X H d v
  | .ow o, ov, L => ∃ v, ov = some (some v) ∧ OwnRep Z X H o v L
theorem SloR.mono {Z : Zt} {X X' : Addr → Prop} {H H' : Hp} (f : Fw Z X H X' H') : ∀ {x : Sl} {ov : Option (Option V)} {L : List Addr}, (∀ a ∈ L, H' a = H a) → SloR Z X H x ov L → SloR Z X' H' x ov L
  | .no, _, _, _, h => h
  | .fz d, ov, L, k, h => by
    obtain ⟨e, v, e2, r⟩ := h
    exact ⟨e, v, e2, r.mono f⟩
  | .ow o, ov, L, k, h => by
    obtain ⟨v, e, r⟩ := h
    exact ⟨v, e, r.mono f k⟩

/-- the entry of a frame: what must not be reached, the heap, the borrowed object's addresses, the borrowed value, what is wanted of an exception -/
structure Gm where
  X0 : Addr → Prop
  H0 : Hp
  B : List Addr
  bor : Nat → Option V
  E : WX
  /-- objects that stand as they are -/
  pin : Addr → HO → Prop := fun _ _ => False
def Gm.X (Γ : Gm) (Lv : Nat → List Addr) : Addr → Prop := fun a => Γ.X0 a ∨ ∃ i, a ∈ Lv i

structure Rl (Z : Zt) (Γ : Gm) (s : S) (Lv : Nat → List Addr) (σ : L2.St) (H : Hp) : Prop where
  len : s.length = σ.length
  sl : ∀ (i : Nat) x, s[i]? = some x → SloR Z (Γ.X Lv) H x σ[i]? (Lv i)
  out : ∀ i, s.length ≤ i → Lv i = []
  nd : ∀ i, (Lv i).Nodup
  dj : ∀ i j a, a ∈ Lv i → a ∈ Lv j → i = j
  lvb : ∀ i a, a ∈ Lv i → (i = 0 ∧ a ∈ Γ.B) ∨ (Γ.H0 a = none ∧ ¬ Γ.X0 a)
  keep : ∀ a o, Γ.H0 a = some o → a ∉ Γ.B → (∀ ps, o ≠ .tbl ps) → H a = some o
  ktbl : ∀ a ps, Γ.H0 a = some (.tbl ps) → ∃ qs, H a = some (.tbl qs)
  st0 : ∀ a, Γ.H0 a ≠ none → H a ≠ none
  x0 : ∀ a, Γ.X0 a → H a ≠ none
  bx : ∀ a ∈ Γ.B, Γ.X0 a
  tb : LamX.Tabs Z.T H
  bor : ∀ i v, Γ.bor i = some v → σ[i]? = some (some v)
  pn : ∀ a o, Γ.pin a o → (Γ.X0 a ∨ Ext o) ∧ (a ∉ Γ.B ∨ Ext o) ∧ (∀ ps, o ≠ .tbl ps) ∧ H a = some o

section
variable {Z : Zt} {Γ : Gm} {s : S} {Lv : Nat → List Addr} {σ : L2.St} {H H' : Hp}

theorem Rl.there (R : Rl Z Γ s Lv σ H) {i : Nat} {a : Addr} (h : a ∈ Lv i) : H a ≠ none := by
  by_cases hi : i < s.length
  · have q := R.sl i s[i] (List.getElem?_eq_getElem hi)
    generalize hx : s[i] = x at q
    cases x with
    | no => rw [show Lv i = [] from q] at h; cases h
    | fz d => rw [q.1] at h; cases h
    | ow o =>
      obtain ⟨v, e, r⟩ := q
      exact r.there a h
  · rw [R.out i (Nat.le_of_not_lt hi)] at h; cases h
theorem Rl.xs (R : Rl Z Γ s Lv σ H) {a : Addr} (h : Γ.X Lv a) : H a ≠ none := by
  rcases h with h | ⟨i, h⟩
  · exact R.x0 a h
  · exact R.there h
theorem same_st {a : Addr} (e : Same H H') (h : H a ≠ none) : H' a ≠ none := fun q => by
  cases p : H a with
  | none => exact h p
  | some o => rw [e a o p] at q; cases q
/-- all that was tracked stands as it stood -/
theorem Rl.same (R : Rl Z Γ s Lv σ H) (e : Same H H') : Rl Z Γ s Lv σ H' := by
  refine ⟨R.len, fun i x hx => (R.sl i x hx).mono (Fw.same e) fun a ha => ?_, R.out, R.nd, R.dj, R.lvb, fun a o h n t => e a o (R.keep a o h n t), fun a ps h => ?_, fun a h => same_st e (R.st0 a h), fun a h => same_st e (R.x0 a h), R.bx, R.tb.ext e, R.bor, fun a o h => let ⟨p1, p2, p3, p4⟩ := R.pn a o h; ⟨p1, p2, p3, e a o p4⟩⟩
  · have h := R.there ha
    cases q : H a with
    | none => exact absurd q h
    | some o => exact e a o q
  · obtain ⟨qs, h⟩ := R.ktbl a ps h
    exact ⟨qs, e a _ h⟩
theorem Rl.fz (R : Rl Z Γ s Lv σ H) {i : Nat} {d : D} (h : s[i]? = some (.fz d)) : ∃ v, σ[i]? = some (some v) ∧ Rep Z (Γ.X Lv) H d v := (R.sl i _ h).2
theorem Rl.ow (R : Rl Z Γ s Lv σ H) {i : Nat} {o : O} (h : s[i]? = some (.ow o)) : ∃ v, σ[i]? = some (some v) ∧ OwnRep Z (Γ.X Lv) H o v (Lv i) := R.sl i _ h

/-- objects own to a slot are no tables -/
theorem Rl.notbl (R : Rl Z Γ s Lv σ H) {j : Nat} {a : Addr} (hj : a ∈ Lv j) {ps : Array Value} (h : H a = some (.tbl ps)) : False := by
  have hj' : j < s.length := by
    refine Nat.lt_of_not_le fun q => ?_
    rw [R.out j q] at hj; cases hj
  have q := R.sl j s[j] (List.getElem?_eq_getElem hj')
  generalize s[j] = y at q
  cases y with
  | no => rw [show Lv j = [] from q] at hj; cases hj
  | fz d => rw [q.1] at hj; cases hj
  | ow o =>
    obtain ⟨v, e, r⟩ := q
    have fdl : ∀ (fs : List Fd) (vs : List V) (As : List Addr), FdL Z (Γ.X Lv) H fs vs As → a ∉ As := by
      intro fs
      induction fs with
      | nil => intro vs As h h2; rw [h.2] at h2; cases h2
      | cons f fs ih =>
        intro vs As h2 h3
        cases f with
        | d x =>
          obtain ⟨_, vr, _, _, h2⟩ := h2
          exact ih vr As h2 h3
        | l ds =>
          obtain ⟨b, vr, ws, Ar, _, e2, e3, _, h2⟩ := h2
          subst e2
          rcases List.mem_cons.mp h3 with z | z
          · rw [z, e3] at h; cases h
          · exact ih vr Ar h2 z
    cases o with
    | lst ds =>
      obtain ⟨b, vs, _, e2, e3, _⟩ := r
      rw [e2] at hj
      rw [List.mem_singleton.mp hj, e3] at h; cases h
    | dic ks ds =>
      obtain ⟨b, vs, _, e2, _, e3, _⟩ := r
      rw [e2] at hj
      rw [List.mem_singleton.mp hj, e3] at h; cases h
    | dit ks ds =>
      obtain ⟨b, vs, _, e2, _, e3, _⟩ := r
      rw [e2] at hj
      rw [List.mem_singleton.mp hj, e3] at h; cases h
    | ins c ns fs =>
      obtain ⟨b, C, dx, vs, As, _, e2, _, _, e3, r⟩ := r
      rw [e2] at hj
      rcases List.mem_cons.mp hj with z | z
      · rw [z, e3] at h; cases h
      · exact fdl _ _ _ r z
theorem Rl.noext (R : Rl Z Γ s Lv σ H) {j : Nat} {a : Addr} (hj : a ∈ Lv j) {φ : Heap → Prop} (h : H a = some (.ext φ)) : False := by
  have hj' : j < s.length := by
    refine Nat.lt_of_not_le fun q => ?_
    rw [R.out j q] at hj; cases hj
  have q := R.sl j s[j] (List.getElem?_eq_getElem hj')
  generalize s[j] = y at q
  cases y with
  | no => rw [show Lv j = [] from q] at hj; cases hj
  | fz d => rw [q.1] at hj; cases hj
  | ow o =>
    obtain ⟨v, e, r⟩ := q
    exact r.noext hj h
def setL (Lv : Nat → List Addr) (i : Nat) (L : List Addr) : Nat → List Addr := fun j => if j = i then L else Lv j
theorem setL_same {i : Nat} {L : List Addr} : setL Lv i L i = L := by unfold setL; rw [if_pos rfl]
theorem setL_ne {i j : Nat} {L : List Addr} (h : j ≠ i) : setL Lv i L j = Lv j := by unfold setL; rw [if_neg h]
theorem setL_self {i : Nat} : setL Lv i (Lv i) = Lv := by funext j; unfold setL; split <;> simp_all

/-- slot i takes another content: what it owns from now on is L; the objects of the other slots are kept -/
theorem Rl.put (R : Rl Z Γ s Lv σ H) {i : Nat} {x : Sl} {σ' : L2.St} {L : List Addr} (hi : i < s.length) (hlen : σ'.length = σ.length) (hσ : ∀ j : Nat, j ≠ i → σ'[j]? = σ[j]?) (hb : ∀ i v, Γ.bor i = some v → σ'[i]? = some (some v))
    (kp : ∀ a o, H a = some o → a ∉ Lv i → (∀ ps, o ≠ .tbl ps) → H' a = some o) (kt : ∀ a ps, H a = some (.tbl ps) → ∃ qs, H' a = some (.tbl qs)) (tb : LamX.Tabs Z.T H → LamX.Tabs Z.T H')
    (nd : L.Nodup) (nw : ∀ a ∈ L, a ∈ Lv i ∨ H a = none) (st : ∀ a, H a ≠ none → H' a ≠ none)
    (r : SloR Z (Γ.X (setL Lv i L)) H' x σ'[i]? L) : Rl Z Γ (s.set i x) (setL Lv i L) σ' H' ∧ Fw Z (Γ.X Lv) H (Γ.X (setL Lv i L)) H' := by
  have h0 : ∀ a, H a = none → Γ.H0 a = none := fun a h => by
    cases q : Γ.H0 a with
    | none => rfl
    | some o => exact absurd h (R.st0 a (by rw [q]; simp))
  have F : Fw Z (Γ.X Lv) H (Γ.X (setL Lv i L)) H' := by
    refine ⟨fun a o h n t => kp a o h (fun q => n (.inr ⟨i, q⟩)) t, kt, fun a h => ?_, tb⟩
    rcases h with h | ⟨j, h⟩
    · exact .inl (.inl h)
    · by_cases hj : j = i
      · subst hj
        rw [setL_same] at h
        rcases nw a h with q | q
        · exact .inl (.inr ⟨j, q⟩)
        · exact .inr q
      · rw [setL_ne hj] at h
        exact .inl (.inr ⟨j, h⟩)
  refine ⟨⟨by rw [List.length_set, hlen]; exact R.len, fun j y hy => ?_, fun j hj => ?_, fun j => ?_, fun j k a hj hk => ?_, fun j a hj => ?_, fun a o h n t => ?_, fun a ps h => ?_, fun a h => st a (R.st0 a h), fun a h => st a (R.x0 a h), R.bx, tb R.tb, hb, fun a o h => ?_⟩, F⟩
  · by_cases hj : j = i
    · subst hj
      rw [List.getElem?_set_self hi] at hy
      cases hy
      rw [setL_same]
      exact r
    · rw [List.getElem?_set_ne (Ne.symm hj)] at hy
      rw [setL_ne hj, hσ j hj]
      refine (R.sl j y hy).mono F fun a ha => ?_
      have h := R.there ha
      cases q : H a with
      | none => exact absurd q h
      | some o => exact kp a o q (fun z => hj (R.dj j i a ha z)) (fun ps z => R.notbl ha (by rw [q, z]))
  · rw [List.length_set] at hj
    have hne : j ≠ i := by omega
    rw [setL_ne hne]
    exact R.out j hj
  · by_cases hj : j = i
    · subst hj; rw [setL_same]; exact nd
    · rw [setL_ne hj]; exact R.nd j
  · by_cases hj1 : j = i
    · by_cases hk1 : k = i
      · rw [hj1, hk1]
      · rw [setL_ne hk1] at hk
        rw [hj1, setL_same] at hj
        rcases nw a hj with q | q
        · exact absurd (R.dj k i a hk q) hk1
        · exact absurd q (R.there hk)
    · rw [setL_ne hj1] at hj
      by_cases hk1 : k = i
      · rw [hk1, setL_same] at hk
        rcases nw a hk with q | q
        · exact absurd (R.dj j i a hj q) hj1
        · exact absurd q (R.there hj)
      · rw [setL_ne hk1] at hk
        exact R.dj j k a hj hk
  · by_cases hj1 : j = i
    · rw [hj1, setL_same] at hj
      rcases nw a hj with q | q
      · rw [hj1]; exact R.lvb i a q
      · exact .inr ⟨h0 a q, fun z => R.x0 a z q⟩
    · rw [setL_ne hj1] at hj
      exact R.lvb j a hj
  · have e := R.keep a o h n t
    refine kp a o e (fun q => ?_) t
    rcases R.lvb i a q with z | z
    · exact n z.2
    · rw [z.1] at h; cases h
  · obtain ⟨qs, e⟩ := R.ktbl a ps h
    exact kt a qs e
  · obtain ⟨p1, p2, p3, p4⟩ := R.pn a o h
    refine ⟨p1, p2, p3, kp a o p4 (fun q => ?_) p3⟩
    rcases R.lvb i a q with z | z
    · rcases p2 with p2 | ⟨φ, rfl⟩
      · exact p2 z.2
      · exact R.noext q p4
    · rcases p1 with p1 | ⟨φ, rfl⟩
      · exact z.2 p1
      · exact R.noext q p4
/-- .. the heap as it is -/
theorem Rl.put0 (R : Rl Z Γ s Lv σ H) {i : Nat} {x : Sl} {σ' : L2.St} {L : List Addr} (hi : i < s.length) (hlen : σ'.length = σ.length) (hσ : ∀ j : Nat, j ≠ i → σ'[j]? = σ[j]?) (hb : ∀ i v, Γ.bor i = some v → σ'[i]? = some (some v))
    (nd : L.Nodup) (nw : ∀ a ∈ L, a ∈ Lv i) (r : SloR Z (Γ.X (setL Lv i L)) H x σ'[i]? L) : Rl Z Γ (s.set i x) (setL Lv i L) σ' H ∧ Fw Z (Γ.X Lv) H (Γ.X (setL Lv i L)) H :=
  R.put hi hlen hσ hb (fun _ _ h _ _ => h) (fun _ ps h => ⟨ps, h⟩) (fun h => h) nd (fun a ha => .inl (nw a ha)) (fun _ h => h) r
/-- another wish about exceptions -/
theorem Rl.wish {E : WX} (R : Rl Z Γ s Lv σ H) : Rl Z { Γ with E := E } s Lv σ H := ⟨R.len, R.sl, R.out, R.nd, R.dj, R.lvb, R.keep, R.ktbl, R.st0, R.x0, R.bx, R.tb, R.bor, R.pn⟩
/-- objects more that must not be reached -/
def Gm.plus (Γ : Gm) (L : List Addr) : Gm := { Γ with X0 := fun a => Γ.X0 a ∨ a ∈ L }
/-- all stands as it stood, but that tables of code objects may have grown -/
structure Kp (Z : Zt) (H H' : Hp) : Prop where
  keep : ∀ a o, H a = some o → (∀ ps, o ≠ .tbl ps) → H' a = some o
  ktbl : ∀ a ps, H a = some (.tbl ps) → ∃ qs, H' a = some (.tbl qs)
  tabs : LamX.Tabs Z.T H → LamX.Tabs Z.T H'
theorem Kp.same (e : Same H H') : Kp Z H H' := ⟨fun a o h _ => e a o h, fun a ps h => ⟨ps, e a _ h⟩, fun h => h.ext e⟩
theorem Kp.refl : Kp Z H H := .same (Same.refl H)
theorem Kp.trans {H2 : Hp} (f : Kp Z H H') (g : Kp Z H' H2) : Kp Z H H2 := ⟨fun a o h t => g.keep a o (f.keep a o h t) t, fun a ps h => let ⟨qs, e⟩ := f.ktbl a ps h; g.ktbl a qs e, fun h => g.tabs (f.tabs h)⟩
theorem Kp.there (f : Kp Z H H') {a : Addr} (h : H a ≠ none) : H' a ≠ none := fun q => by
  cases p : H a with
  | none => exact h p
  | some o =>
    by_cases ht : ∃ ps, o = .tbl ps
    · obtain ⟨ps, rfl⟩ := ht
      obtain ⟨qs, e⟩ := f.ktbl a ps p
      rw [e] at q; cases q
    · rw [f.keep a o p fun ps z => ht ⟨ps, z⟩] at q; cases q
theorem Kp.fw (f : Kp Z H H') {X : Addr → Prop} : Fw Z X H X H' := ⟨fun a o h _ t => f.keep a o h t, f.ktbl, fun _ h => .inl h, f.tabs⟩
theorem Rl.kp (R : Rl Z Γ s Lv σ H) (f : Kp Z H H') {E : WX} {L : List Addr} (hL : ∀ b ∈ L, H b = none ∧ H' b ≠ none) : Rl Z { Γ.plus L with E := E } s Lv σ H' := by
  have F : Fw Z (Γ.X Lv) H (Gm.X { Γ.plus L with E := E } Lv) H' := by
    refine ⟨fun a o h _ t => f.keep a o h t, f.ktbl, fun a h => ?_, f.tabs⟩
    rcases h with (h | h) | h
    · exact .inl (.inl h)
    · exact .inr (hL a h).1
    · exact .inl (.inr h)
  refine ⟨R.len, fun i x hx => (R.sl i x hx).mono F fun a ha => ?_, R.out, R.nd, R.dj, fun i a ha => ?_, fun a o h n t => f.keep a o (R.keep a o h n t) t, fun a ps h => ?_, fun a h => f.there (R.st0 a h), fun a h => ?_, fun a ha => .inl (R.bx a ha), f.tabs R.tb, R.bor, fun a o h => let ⟨p1, p2, p3, p4⟩ := R.pn a o h; ⟨p1.imp .inl id, p2, p3, f.keep a o p4 p3⟩⟩
  · cases q : H a with
    | none => exact absurd q (R.there ha)
    | some o => exact f.keep a o q fun ps z => R.notbl ha (by rw [q, z])
  · rcases R.lvb i a ha with z | z
    · exact .inl z
    · exact .inr ⟨z.1, fun q => q.elim z.2 fun q => R.there ha (hL a q).1⟩
  · obtain ⟨qs, e⟩ := R.ktbl a ps h
    exact f.ktbl a qs e
  · rcases h with h | h
    · exact f.there (R.x0 a h)
    · exact (hL a h).2
/-- .. and less -/
theorem Rl.less0 {Γ' : Gm} {L : List Addr} (R : Rl Z Γ' s Lv σ H) (e1 : Γ'.X0 = (Γ.plus L).X0) (e2 : Γ'.H0 = Γ.H0) (e3 : Γ'.B = Γ.B) (e4 : Γ'.bor = Γ.bor) (hB : ∀ a ∈ Γ.B, Γ.X0 a) (hp : ∀ a o, Γ.pin a o → (Γ.X0 a ∨ Ext o) ∧ (a ∉ Γ.B ∨ Ext o) ∧ (∀ ps, o ≠ .tbl ps) ∧ H a = some o) : Rl Z Γ s Lv σ H := by
  obtain ⟨X0', H0', B', bor', E', pin'⟩ := Γ'
  simp only at e1 e2 e3 e4
  subst e1 e2 e3 e4
  refine ⟨R.len, fun i x hx => (R.sl i x hx).mono (Fw.refl.less fun a h => ?_) fun _ _ => rfl, R.out, R.nd, R.dj, fun i a ha => ?_, R.keep, R.ktbl, R.st0, fun a h => R.x0 a (.inl h), hB, R.tb, R.bor, hp⟩
  · rcases h with h | h
    · exact .inl (.inl h)
    · exact .inr h
  · rcases R.lvb i a ha with z | z
    · exact .inl z
    · exact .inr ⟨z.1, fun q => z.2 (.inl q)⟩
theorem Rl.less {E : WX} {L : List Addr} (R : Rl Z { Γ.plus L with E := E } s Lv σ H) (hB : ∀ a ∈ Γ.B, Γ.X0 a) (hX : ∀ a o, Γ.pin a o → Γ.X0 a ∨ Ext o) : Rl Z Γ s Lv σ H :=
  R.less0 rfl rfl rfl rfl hB fun a o h => let ⟨_, p2, p3, p4⟩ := R.pn a o h; ⟨hX a o h, p2, p3, p4⟩
theorem Rl.pinx (R : Rl Z Γ s Lv σ H) : ∀ a o, Γ.pin a o → Γ.X0 a ∨ Ext o := fun a o h => (R.pn a o h).1
theorem plus_wish {L : List Addr} : { Γ.plus L with E := Γ.E } = Γ.plus L := rfl
/-- in a comprehension: the list that is made stands at p, its items so far are acc -/
def Gm.blk (Γ : Gm) (p : Addr) (acc : List V) : Gm := { Γ.plus [p] with E := fun _ _ _ _ => False, pin := fun a o => Γ.pin a o ∨ (a = p ∧ o = .lst acc) }
theorem Rl.toBlk {p : Addr} (R : Rl Z Γ s Lv σ H) (np : H p = none) : Rl Z (Γ.blk p []) s Lv σ (upd H p (.lst [])) := by
  have sm : Same H (upd H p (.lst [])) := fun b x e => by
    rw [upd_ne (ne_of_none e np)]
    exact e
  have R1 := R.kp (E := Γ.E) (L := [p]) (.same sm) (fun b hb => by rw [List.mem_singleton.mp hb, upd_same]; exact ⟨np, by simp⟩)
  refine ⟨R1.len, R1.sl, R1.out, R1.nd, R1.dj, R1.lvb, R1.keep, R1.ktbl, R1.st0, R1.x0, R1.bx, R1.tb, R1.bor, fun a o h => ?_⟩
  rcases h with h | ⟨rfl, rfl⟩
  · exact R1.pn a o h
  · exact ⟨.inl (.inr (by simp)), .inl fun q => R.x0 a (R.bx a q) np, fun ps z => (by cases z), upd_same⟩
/-- the list has grown -/
theorem Rl.grow {p : Addr} {acc acc' : List V} (R : Rl Z (Γ.blk p acc) s Lv σ H) (hp : ∀ o, ¬ Γ.pin p o) (h0 : Γ.H0 p = none) (htb : LamX.Tabs Z.T (upd H p (.lst acc'))) : Rl Z (Γ.blk p acc') s Lv σ (upd H p (.lst acc')) := by
  obtain ⟨p1, p2, p3, p4⟩ := R.pn p _ (.inr ⟨rfl, rfl⟩)
  have nx : ¬ Ext (.lst acc) := fun ⟨_, z⟩ => by cases z
  have p1 := p1.resolve_right nx
  have p2 := p2.resolve_right nx
  have nL : ∀ i, p ∉ Lv i := fun i hi => by
    rcases R.lvb i p hi with z | z
    · exact p2 z.2
    · exact z.2 p1
  have F : Fw Z ((Γ.blk p acc).X Lv) H ((Γ.blk p acc).X Lv) (upd H p (.lst acc')) := by
    refine ⟨fun a o h n _ => ?_, fun a ps h => ?_, fun a h => .inl h, fun _ => htb⟩
    · rw [upd_ne fun z => n (by rw [z]; exact .inl p1)]; exact h
    · rw [upd_ne fun z => by rw [z, p4] at h; cases h]
      exact ⟨ps, h⟩
  have ne : ∀ a o, H a = some o → a ≠ p → upd H p (.lst acc') a = some o := fun a o h n => by rw [upd_ne n]; exact h
  have nn : ∀ a, H a ≠ none → upd H p (.lst acc') a ≠ none := fun a h => by
    by_cases z : a = p
    · rw [z, upd_same]; simp
    · rw [upd_ne z]; exact h
  refine ⟨R.len, fun i x hx => (R.sl i x hx).mono F fun a ha => upd_ne fun z => nL i (by rw [← z]; exact ha), R.out, R.nd, R.dj, R.lvb, fun a o h n t => ?_, fun a ps h => ?_, fun a h => nn a (R.st0 a h), fun a h => nn a (R.x0 a h), R.bx, htb, R.bor, fun a o h => ?_⟩
  · exact ne a o (R.keep a o h n t) fun z => by rw [z] at h; have h : Γ.H0 p = some o := h; rw [h0] at h; cases h
  · obtain ⟨qs, e⟩ := R.ktbl a ps h
    exact ⟨qs, ne a _ e fun z => by rw [z, p4] at e; cases e⟩
  · rcases h with h | ⟨rfl, rfl⟩
    · obtain ⟨q1, q2, q3, q4⟩ := R.pn a o (.inl h)
      exact ⟨q1, q2, q3, ne a o q4 fun z => hp o (by rw [← z]; exact h)⟩
    · exact ⟨.inl p1, .inl p2, fun ps z => (by cases z), upd_same⟩
/-- an own object is data from now on -/
theorem FdL.toD {X X' : Addr → Prop} : ∀ {fs : List Fd} {vs : List V} {As : List Addr}, (∀ d v, Rep Z X H d v → Rep Z X' H d v) → (∀ ds vs, RepL Z X H ds vs → RepL Z X' H ds vs) → (∀ a ∈ As, ¬ X' a) → FdL Z X H fs vs As → RepL Z X' H (fs.map Fd.toD) vs
  | [], _, _, _, _, _, h => by simpa only [List.map, RepL] using h.1
  | .d x :: fs, vs, As, k, kl, n, h => by
    obtain ⟨v, vr, e, r, h⟩ := h
    simp only [List.map, RepL]
    exact ⟨v, vr, e, k _ _ r, FdL.toD k kl n h⟩
  | .l ds :: fs, vs, As, k, kl, n, h => by
    obtain ⟨a, vr, ws, Ar, e, e2, e3, r, h⟩ := h
    subst e2
    simp only [List.map, RepL]
    refine ⟨_, vr, e, ?_, FdL.toD k kl (fun b hb => n b (List.mem_cons_of_mem _ hb)) h⟩
    show Rep Z X' H (.lst ds) _
    simp only [Rep]
    exact ⟨a, ws, rfl, n a List.mem_cons_self, e3, kl _ _ r⟩
theorem OwnRep.toD {X X' : Addr → Prop} (f : Fw Z X H X' H) : ∀ {o : O} {v : V} {L : List Addr}, (∀ a ∈ L, ¬ X' a) → OwnRep Z X H o v L → Rep Z X' H o.toD v
  | .lst ds, v, L, n, h => by
    obtain ⟨a, vs, e, rfl, e3, r⟩ := h
    simp only [O.toD, Rep]
    exact ⟨a, vs, e, n a (by simp), e3, r.mono f⟩
  | .dic ks ds, v, L, n, h => by
    obtain ⟨a, vs, e, rfl, hl, e3, r⟩ := h
    simp only [O.toD, Rep]
    exact ⟨a, vs, e, n a (by simp), hl, e3, r.mono f⟩
  | .dit ks ds, v, L, n, h => by
    obtain ⟨a, vs, e, rfl, hl, e3, r⟩ := h
    simp only [O.toD, Rep]
    exact ⟨a, vs, e, n a (by simp), hl, e3, r.mono f⟩
  | .ins c ns fs, v, L, n, h => by
    obtain ⟨a, C, dx, vs, As, e, rfl, hl, hm, e3, r⟩ := h
    simp only [O.toD, Rep]
    exact ⟨a, C, dx, vs, e, n a (by simp), hl, hm, e3, FdL.toD (fun d v h => h.mono f) (fun d v h => h.mono f) (fun b hb => n b (List.mem_cons_of_mem _ hb)) r⟩
end
end PD

set_option linter.all false
set_option maxRecDepth 100000
/-! PD3: readings by plain functions. -/
namespace PD
open PySem PySem.Spec PyProof.Rows L2

/-- what a piece of code gives: a value and the slots; an exception; or nothing is said -/
inductive R (α : Type) where
  | ok (a : α) (s : S) | er (c : Str) (ns : List Str) (ds : List D) (s : S) | st
def R.bind {α β : Type} (x : R α) (f : α → S → R β) : R β := match x with
  | .ok a s => f a s
  | .er c ns ds s => .er c ns ds s
  | .st => .st
@[simp] theorem R.bind_ok {α β : Type} (a : α) (s : S) (f : α → S → R β) : (R.ok a s).bind f = f a s := rfl
@[simp] theorem R.bind_er {α β : Type} (c : Str) (ns : List Str) (ds : List D) (s : S) (f : α → S → R β) : (R.er (α := α) c ns ds s).bind f = .er c ns ds s := rfl
@[simp] theorem R.bind_st {α β : Type} (f : α → S → R β) : (R.st (α := α)).bind f = .st := rfl
/-- a value in a frame: data, or the own object of a slot -/
inductive W where
  | d (x : D) | p (i : Nat)
def WRep (Z : Zt) (X : Addr → Prop) (σ : L2.St) (H : Hp) : W → V → Prop
  | .d x, v => Rep Z X H x v
  | .p i, v => σ[i]? = some (some v)
def WRepL (Z : Zt) (X : Addr → Prop) (σ : L2.St) (H : Hp) : List W → List V → Prop
  | [], vs => vs = []
  | w :: ws, vs => ∃ v vr, vs = v :: vr ∧ WRep Z X σ H w v ∧ WRepL Z X σ H ws vr
theorem WRep.mono {Z : Zt} {X X' : Addr → Prop} {σ : L2.St} {H H' : Hp} (f : Fw Z X H X' H') : ∀ {w : W} {v : V}, WRep Z X σ H w v → WRep Z X' σ H' w v
  | .d x, v, h => Rep.mono f x v h
  | .p i, v, h => h
theorem WRepL.mono {Z : Zt} {X X' : Addr → Prop} {σ : L2.St} {H H' : Hp} (f : Fw Z X H X' H') : ∀ {w : List W} {v : List V}, WRepL Z X σ H w v → WRepL Z X' σ H' w v
  | [], v, h => h
  | w :: ws, vs, h => by
    obtain ⟨v, vr, e, r, h⟩ := h
    exact ⟨v, vr, e, r.mono f, h.mono f⟩
/-- an own object or data, as it may be read now -/
def Vw (Z : Zt) (X : Addr → Prop) (H : Hp) (d : D) (v : V) : Prop := Rep Z X H d v ∨ ∃ o L, d = O.toD o ∧ OwnRep Z X H o v L
def VwL (Z : Zt) (X : Addr → Prop) (H : Hp) : List D → List V → Prop
  | [], vs => vs = []
  | d :: ds, vs => ∃ v vr, vs = v :: vr ∧ Vw Z X H d v ∧ VwL Z X H ds vr
/-- the data behind a value -/
def rdW (s : S) : W → Option D
  | .d x => some x
  | .p i => match s[i]? with
    | some (.ow o) => some o.toD
    | some (.fz d) => some d
    | _ => none
def rdL (s : S) : List W → Option (List D)
  | [] => some []
  | w :: ws => (rdW s w).bind fun d => (rdL s ws).bind fun ds => some (d :: ds)
/-- data alone (to be kept) -/
def fzW : W → Option D
  | .d x => some x
  | .p _ => none
def fzL : List W → Option (List D)
  | [] => some []
  | w :: ws => (fzW w).bind fun d => (fzL ws).bind fun ds => some (d :: ds)
def ofO {α : Type} (s : S) : Option α → R α
  | some a => .ok a s
  | none => .st
@[simp] theorem ofO_some {α : Type} (s : S) (a : α) : ofO s (some a) = .ok a s := rfl
@[simp] theorem ofO_none {α : Type} (s : S) : ofO (α := α) s none = .st := rfl

/-- an exception of the text's class c with the attributes ns, ds -/
def ExR (Z : Zt) (X : Addr → Prop) (H : Hp) (c : Str) (ns : List Str) (ds : List D) (cls : Value) (d : Option Addr) : Prop :=
  ∃ C, cls = .ref C ∧ Z.mg c = some (.ref C) ∧ (ns = [] ∨ ∃ dd vs, d = some dd ∧ ns.length = vs.length ∧ H dd = some (.xd (ns.zip vs)) ∧ RepL Z X H ds vs)

/-- what must hold so that the answer r is as wanted -/
def Po {α β : Type} (Z : Zt) (Γ : Gm) (rep : (Addr → Prop) → L2.St → Hp → α → β → Prop) (r : R α) (Lv : Nat → List Addr) (σ : L2.St) (H : Hp) (Q : β → Hp → Prop) : Prop := match r with
  | .ok a s' => ∀ v H' Lv', Rl Z Γ s' Lv' σ H' → Fw Z (Γ.X Lv) H (Γ.X Lv') H' → rep (Γ.X Lv') σ H' a v → Q v H'
  | .er c ns ds s' => ∀ cls d H' Lv', Rl Z Γ s' Lv' σ H' → Fw Z (Γ.X Lv) H (Γ.X Lv') H' → ExR Z (Γ.X Lv') H' c ns ds cls d → Γ.E cls d σ H'
  | .st => False
def tE (Z : Zt) (Γ : Gm) (f : S → R W) : TE := fun σ H Q => ∃ s Lv, Rl Z Γ s Lv σ H ∧ Po Z Γ (WRep Z) (f s) Lv σ H Q
def tT (Z : Zt) (Γ : Gm) (f : S → R Bool) : TT := fun σ H Q => ∃ s Lv, Rl Z Γ s Lv σ H ∧ Po Z Γ (fun _ _ _ a b => a = b) (f s) Lv σ H Q
def tA (Z : Zt) (Γ : Gm) (f : S → R (List W)) : TA := fun σ H Q => ∃ s Lv, Rl Z Γ s Lv σ H ∧ Po Z Γ (WRepL Z) (f s) Lv σ H Q
/-- data or an own object -/
inductive Rv where
  | d (x : D) | o (x : O)
def RvRep (Z : Zt) (X : Addr → Prop) (H : Hp) : Rv → V → List Addr → Prop
  | .d x, v, L => L = [] ∧ Rep Z X H x v
  | .o x, v, L => OwnRep Z X H x v L
/-- .. whose value is reached from nowhere else -/
def tR (Z : Zt) (Γ : Gm) (f : S → R Rv) : TE := fun σ H Q => ∃ s Lv, Rl Z Γ s Lv σ H ∧ match f s with
  | .ok a s' => ∀ v H' Lv' L, Rl Z (Γ.plus L) s' Lv' σ H' → Fw Z (Γ.X Lv) H ((Γ.plus L).X Lv') H' → L.Nodup → (∀ b ∈ L, ¬ Γ.X Lv' b ∧ Γ.H0 b = none) → RvRep Z ((Γ.plus L).X Lv') H' a v L → Q v H'
  | .er c ns ds s' => ∀ cls d H' Lv', Rl Z Γ s' Lv' σ H' → Fw Z (Γ.X Lv) H (Γ.X Lv') H' → ExR Z (Γ.X Lv') H' c ns ds cls d → Γ.E cls d σ H'
  | .st => False

section
variable {Z : Zt} {Γ : Gm} {α β γ δ : Type} {Lv : Nat → List Addr} {σ : L2.St} {H : Hp}
theorem Po.bind {ra : (Addr → Prop) → L2.St → Hp → α → β → Prop} {rc : (Addr → Prop) → L2.St → Hp → γ → δ → Prop} {x : R α} {g : α → S → R γ} {Q : δ → Hp → Prop} (h : Po Z Γ rc (x.bind g) Lv σ H Q) :
    Po Z Γ ra x Lv σ H fun v H1 => ∃ a s1 Lv1, x = .ok a s1 ∧ Rl Z Γ s1 Lv1 σ H1 ∧ Fw Z (Γ.X Lv) H (Γ.X Lv1) H1 ∧ ra (Γ.X Lv1) σ H1 a v ∧ Po Z Γ rc (g a s1) Lv1 σ H1 Q := by
  cases x with
  | ok a s1 =>
    intro v H1 Lv1 R F r
    refine ⟨a, s1, Lv1, rfl, R, F, r, ?_⟩
    have h : Po Z Γ rc (g a s1) Lv σ H Q := h
    generalize g a s1 = y at h
    cases y with
    | ok c s2 => exact fun u H2 Lv2 R2 F2 r2 => h u H2 Lv2 R2 (F.trans F2) r2
    | er c ns ds s2 => exact fun cls d H2 Lv2 R2 F2 r2 => h cls d H2 Lv2 R2 (F.trans F2) r2
    | st => exact h
  | er c ns ds s1 => exact h
  | st => exact h
theorem Po.mono {ra : (Addr → Prop) → L2.St → Hp → α → β → Prop} {x : R α} {Q Q' : β → Hp → Prop} (h : Po Z Γ ra x Lv σ H Q) (k : ∀ v H1, Q v H1 → Q' v H1) : Po Z Γ ra x Lv σ H Q' := by
  cases x with
  | ok a s1 => exact fun v H1 Lv1 R F r => k _ _ (h v H1 Lv1 R F r)
  | er c ns ds s1 => exact h
  | st => exact h
theorem Po.ok {ra : (Addr → Prop) → L2.St → Hp → α → β → Prop} {a : α} {s : S} {v : β} {Q : β → Hp → Prop} (h : Po Z Γ ra (.ok a s) Lv σ H Q) (R : Rl Z Γ s Lv σ H) (r : ra (Γ.X Lv) σ H a v) : Q v H := h v H Lv R Fw.refl r
theorem Po.ok' {ra : (Addr → Prop) → L2.St → Hp → α → β → Prop} {a : α} {s : S} {v : β} {H' : Hp} {Q : β → Hp → Prop} (h : Po Z Γ ra (.ok a s) Lv σ H Q) (R : Rl Z Γ s Lv σ H) (e : Same H H') (r : ra (Γ.X Lv) σ H' a v) : Q v H' :=
  h v H' Lv (R.same e) (Fw.same e) r
/-- a test that is not decided by its making: any data -/
theorem rd_ok {s : S} {w : W} {d : D} {v : V} (R : Rl Z Γ s Lv σ H) (r : WRep Z (Γ.X Lv) σ H w v) (h : rdW s w = some d) : Vw Z (Γ.X Lv) H d v := by
  cases w with
  | d x => cases h; exact .inl r
  | p i =>
    simp only [rdW] at h
    split at h
    · rename_i o e
      cases h
      obtain ⟨u, e2, r2⟩ := R.ow e
      rw [show σ[i]? = some (some v) from r] at e2
      cases e2
      exact .inr ⟨o, _, rfl, r2⟩
    · rename_i d' e
      cases h
      obtain ⟨u, e2, r2⟩ := R.fz e
      rw [show σ[i]? = some (some v) from r] at e2
      cases e2
      exact .inl r2
    · cases h
theorem rdL_ok {s : S} (R : Rl Z Γ s Lv σ H) : ∀ {ws : List W} {ds : List D} {vs : List V}, WRepL Z (Γ.X Lv) σ H ws vs → rdL s ws = some ds → VwL Z (Γ.X Lv) H ds vs
  | [], ds, vs, r, h => by cases h; exact r
  | w :: ws, ds, vs, r, h => by
    obtain ⟨v, vr, e, r1, r2⟩ := r
    simp only [rdL] at h
    cases e1 : rdW s w with
    | none => rw [e1] at h; cases h
    | some d =>
      cases e2 : rdL s ws with
      | none => rw [e1, e2] at h; cases h
      | some dr =>
        rw [e1, e2] at h
        cases h
        exact ⟨v, vr, e, rd_ok R r1 e1, rdL_ok R r2 e2⟩
theorem fz_ok {X : Addr → Prop} {w : W} {d : D} {v : V} (r : WRep Z X σ H w v) (h : fzW w = some d) : Rep Z X H d v := by
  cases w with
  | d x => cases h; exact r
  | p i => cases h
theorem fzL_ok {X : Addr → Prop} : ∀ {ws : List W} {ds : List D} {vs : List V}, WRepL Z X σ H ws vs → fzL ws = some ds → RepL Z X H ds vs
  | [], ds, vs, r, h => by cases h; simp only [RepL]; exact r
  | w :: ws, ds, vs, r, h => by
    obtain ⟨v, vr, e, r1, r2⟩ := r
    simp only [fzL] at h
    cases e1 : fzW w with
    | none => rw [e1] at h; cases h
    | some d =>
      cases e2 : fzL ws with
      | none => rw [e1, e2] at h; cases h
      | some dr =>
        rw [e1, e2] at h
        cases h
        simp only [RepL]
        exact ⟨v, vr, e, fz_ok r1 e1, fzL_ok r2 e2⟩
theorem RepL.vw {X : Addr → Prop} : ∀ {ds : List D} {vs : List V}, RepL Z X H ds vs → VwL Z X H ds vs
  | [], vs, h => by simp only [RepL] at h; exact h
  | d :: ds, vs, h => by
    simp only [RepL] at h
    obtain ⟨v, vr, e, r, h⟩ := h
    exact ⟨v, vr, e, .inl r, RepL.vw h⟩
theorem RepL.length {X : Addr → Prop} : ∀ {ds : List D} {vs : List V}, RepL Z X H ds vs → ds.length = vs.length
  | [], vs, h => by simp only [RepL] at h; rw [h]; rfl
  | d :: ds, vs, h => by
    simp only [RepL] at h
    obtain ⟨v, vr, e, r, h⟩ := h
    rw [e, List.length_cons, List.length_cons, RepL.length h]
theorem RepL.get {X : Addr → Prop} : ∀ {ds : List D} {vs : List V} {i : Nat} {d : D}, RepL Z X H ds vs → ds[i]? = some d → ∃ v, vs[i]? = some v ∧ Rep Z X H d v
  | [], _, _, _, _, e => by simp at e
  | d :: ds, vs, 0, x, h, e => by
    simp only [RepL] at h
    obtain ⟨v, vr, rfl, r, h⟩ := h
    simp at e; subst e
    exact ⟨v, rfl, r⟩
  | d :: ds, vs, i + 1, x, h, e => by
    simp only [RepL] at h
    obtain ⟨v, vr, rfl, r, h⟩ := h
    obtain ⟨u, e2, r2⟩ := RepL.get (i := i) (d := x) h (by simpa using e)
    exact ⟨u, by simpa using e2, r2⟩
theorem RepL.app {X : Addr → Prop} : ∀ {ds es : List D} {vs us : List V}, RepL Z X H ds vs → RepL Z X H es us → RepL Z X H (ds ++ es) (vs ++ us)
  | [], es, vs, us, h, h2 => by simp only [RepL] at h; subst h; simpa using h2
  | d :: ds, es, vs, us, h, h2 => by
    simp only [RepL] at h
    obtain ⟨v, vr, rfl, r, h⟩ := h
    simp only [List.cons_append, RepL]
    exact ⟨v, vr ++ us, rfl, r, RepL.app h h2⟩
theorem RepL.one {X : Addr → Prop} {d : D} {v : V} (h : Rep Z X H d v) : RepL Z X H [d] [v] := by
  simp only [RepL]
  exact ⟨v, [], rfl, h, rfl⟩
theorem RepL.nil {X : Addr → Prop} : RepL Z X H [] [] := by simp only [RepL]
theorem RepL.take {X : Addr → Prop} : ∀ {ds : List D} {vs : List V} (n : Nat), RepL Z X H ds vs → RepL Z X H (ds.take n) (vs.take n)
  | _, _, 0, _ => by simp only [List.take_zero, RepL]
  | [], vs, n + 1, h => by simp only [RepL] at h; subst h; simp only [List.take_nil, RepL]
  | d :: ds, vs, n + 1, h => by
    simp only [RepL] at h
    obtain ⟨v, vr, rfl, r, h⟩ := h
    simp only [List.take_succ_cons, RepL]
    exact ⟨v, _, rfl, r, RepL.take n h⟩
theorem RepL.drop {X : Addr → Prop} : ∀ {ds : List D} {vs : List V} (n : Nat), RepL Z X H ds vs → RepL Z X H (ds.drop n) (vs.drop n)
  | _, _, 0, h => by simpa using h
  | [], vs, n + 1, h => by simp only [RepL] at h; subst h; simp only [List.drop_nil, RepL]
  | d :: ds, vs, n + 1, h => by
    simp only [RepL] at h
    obtain ⟨v, vr, rfl, r, h⟩ := h
    simpa using RepL.drop n h
end

/-- what a pure operation asks and gives -/
def rD (Z : Zt) (g : List D → Option D) : List V → Hp → VK → Prop := fun xs H Q =>
  ∃ (X : Addr → Prop) (ds : List D) (d : D), (∀ a, X a → H a ≠ none) ∧ VwL Z X H ds xs ∧ g ds = some d ∧ ∀ v H', Same H H' → Rep Z X H' d v → Q v H'
abbrev rD2 (Z : Zt) (g : List D → Option D) : R2 := fun x y H Q => rD Z g [x, y] H Q
end PD

set_option linter.all false
set_option maxRecDepth 100000
/-! PD4: expressions. -/
namespace PD
open PySem PySem.Spec PyProof.Rows L2

theorem pe_imp {X : Cx} {e : Expr} {t t' : TE} (h : PE X e t) (k : ∀ σ H Q, t' σ H Q → t σ H Q) : PE X e t' := ⟨fun pins s σ H Q I q => h.run pins s σ H Q I (k σ H Q q)⟩
theorem pt_imp {X : Cx} {e : Expr} {t t' : TT} (h : PT X e t) (k : ∀ σ H Q, t' σ H Q → t σ H Q) : PT X e t' := ⟨fun pins s σ H Q I q => h.run pins s σ H Q I (k σ H Q q)⟩
theorem pw_imp {X : Cx} {e : Expr} {t t' : TT} (h : PW X e t) (k : ∀ σ H Q, t' σ H Q → t σ H Q) : PW X e t' := ⟨fun wh pins s σ H Q I q => h.run wh pins s σ H Q I (k σ H Q q)⟩
theorem pa_imp {X : Cx} {es : List Expr} {t t' : TA} (h : PA X es t) (k : ∀ σ H Q, t' σ H Q → t σ H Q) : PA X es t' := ⟨fun pos pins s σ H Q I q => h.run pos pins s σ H Q I (k σ H Q q)⟩
theorem ps_imp {X : Cx} {e : Stmt} {t t' : TS} (h : PS X e t) (k : ∀ D σ H, t' D σ H → t D σ H) : PS X e t' := ⟨fun pins s σ H D I q => h.run pins s σ H D I (k D σ H q)⟩
theorem pss_imp {X : Cx} {e : List Stmt} {t t' : TS} (h : PSs X e t) (k : ∀ D σ H, t' D σ H → t D σ H) : PSs X e t' := ⟨fun pins s σ H D I q => h.run pins s σ H D I (k D σ H q)⟩

/-! ### what expressions give -/
def eV (i : Nat) : S → R W := fun s => match s[i]? with
  | some (.fz d) => .ok (.d d) s
  | some (.ow _) => .ok (.p i) s
  | _ => .st
def eC (d : D) : S → R W := fun s => .ok (.d d) s
def eUn (g : List D → Option D) (f : S → R W) : S → R W := fun s => (f s).bind fun w s1 => ofO s1 ((rdW s1 w).bind fun d => (g [d]).map W.d)
def eBin (g : List D → Option D) (fa fb : S → R W) : S → R W := fun s => (fa s).bind fun w s1 => (fb s1).bind fun u s2 => ofO s2 ((rdL s2 [w, u]).bind fun ds => (g ds).map W.d)
def eApp (g : List D → Option D) (f : S → R (List W)) : S → R W := fun s => (f s).bind fun ws s1 => ofO s1 ((rdL s1 ws).bind fun ds => (g ds).map W.d)
def aNil : S → R (List W) := fun s => .ok [] s
def aCons (f : S → R W) (g : S → R (List W)) : S → R (List W) := fun s => (f s).bind fun w s1 => (g s1).bind fun ws s2 => .ok (w :: ws) s2
def asB : D → Option Bool
  | .bl b => some b
  | _ => none
/-- truth -/
def truD : D → Option Bool
  | .non => some false
  | .bl b => some b
  | .int i => some (i != 0)
  | .str s => if s.length ≤ 1000000 then some (s.length != 0) else none
  | .tup ds => some (!ds.isEmpty)
  | .lst ds => some (!ds.isEmpty)
  | _ => none
def eAnd (fa fb : S → R W) : S → R W := fun s => (fa s).bind fun w s1 => match w with
  | .d (.bl true) => fb s1
  | .d (.bl false) => .ok (.d (.bl false)) s1
  | _ => .st
def eOr (fa fb : S → R W) : S → R W := fun s => (fa s).bind fun w s1 => match w with
  | .d (.bl false) => fb s1
  | .d (.bl true) => .ok (.d (.bl true)) s1
  | _ => .st
def gNot : List D → Option D
  | [.bl b] => some (.bl (!b))
  | _ => none
def eIf (t : S → R Bool) (fa fb : S → R W) : S → R W := fun s => (t s).bind fun b s1 => if b = true then fa s1 else fb s1
/-- an expression as a test -/
def cVal (f : S → R W) : S → R Bool := fun s => (f s).bind fun w s1 => ofO s1 ((rdW s1 w).bind truD)
def cAnd (f g : S → R Bool) : S → R Bool := fun s => (f s).bind fun b s1 => if b = true then g s1 else .ok false s1
def cOr (f g : S → R Bool) : S → R Bool := fun s => (f s).bind fun b s1 => if b = true then .ok true s1 else g s1
def cNot (f : S → R Bool) : S → R Bool := fun s => (f s).bind fun b s1 => .ok (!b) s1
section
variable {X : Cx} {Z : Zt} {Γ : Gm} {a b e : Expr} {es : List Expr} {pos : Pos} {fa fb fc : S → R W} {ga gb : S → R Bool} {fs : S → R (List W)}

theorem de_v (i : Nat) {x : Str} (hN : X.N[i]? = some x := by rfl) (hv : Vis X.env.scope x := by first | exact Or.inl rfl | exact Or.inr (Or.inl rfl) | exact Or.inr (Or.inr rfl)) (hd : (x == ("__debug__" : Str)) = false := by decide)
    (hcd : (x == ("__classdict__" : Str)) = false := by decide) : PE X (.Name x pos) (tE Z Γ (eV i)) := by
  refine pe_imp (pv i hN hv hd hcd) fun σ H Q h => ?_
  obtain ⟨s, Lv, R, po⟩ := h
  simp only [eV] at po
  split at po
  · rename_i d e
    obtain ⟨v, e2, r⟩ := R.fz e
    exact ⟨v, e2, po.ok R r⟩
  · rename_i o e
    obtain ⟨v, e2, r⟩ := R.ow e
    exact ⟨v, e2, po.ok R e2⟩
  · exact po.elim
theorem de_c {d : D} {v : V} (h : PE X e (tC v)) (r : ∀ Y H, Rep Z Y H d v) : PE X e (tE Z Γ (eC d)) := by
  refine pe_imp h fun σ H Q h => ?_
  obtain ⟨s, Lv, R, po⟩ := h
  exact po.ok R (r _ _)
theorem de_int {i j} : PE X (.Constant (.int i) j pos) (tE Z Γ (eC (.int i))) := de_c pe_int fun _ _ => by simp only [Rep]
theorem de_bl {i j} : PE X (.Constant (.bool i) j pos) (tE Z Γ (eC (.bl i))) := de_c pe_bl fun _ _ => by simp only [Rep]
theorem de_str {i j} : PE X (.Constant (.str i) j pos) (tE Z Γ (eC (.str i))) := de_c pe_str fun _ _ => by simp only [Rep]
theorem de_non {j} : PE X (.Constant .none j pos) (tE Z Γ (eC .non)) := de_c pe_non fun _ _ => by simp only [Rep]

/-- the end of a pure operation -/
theorem fin_D {s : S} {Lv : Nat → List Addr} {σ : L2.St} {H : Hp} {Q : VK} {ws : List W} {vs : List V} {g : List D → Option D} (R : Rl Z Γ s Lv σ H) (r : WRepL Z (Γ.X Lv) σ H ws vs)
    (po : Po Z Γ (WRep Z) (ofO s ((rdL s ws).bind fun ds => (g ds).map W.d)) Lv σ H Q) : rD Z g vs H Q := by
  cases e1 : rdL s ws with
  | none => rw [e1] at po; exact po.elim
  | some ds =>
    cases e2 : g ds with
    | none => rw [e1] at po; simp only [Option.bind_some, e2, Option.map_none] at po; exact po.elim
    | some d =>
      rw [e1] at po
      simp only [Option.bind_some, e2, Option.map_some] at po
      exact ⟨Γ.X Lv, ds, d, fun a h => R.xs h, rdL_ok R r e1, e2, fun v H' sm rp => po.ok' R sm rp⟩
theorem de_un {op : UnaryOp} {g : List D → Option D} (ho : UnR X (unaryOp op) fun x H Q => rD Z g [x] H Q) (ha : PE X a (tE Z Γ fa)) : PE X (.UnaryOp op a pos) (tE Z Γ (eUn g fa)) := by
  refine pe_imp (pe_un ho ha) fun σ H Q h => ?_
  obtain ⟨s, Lv, R, po⟩ := h
  refine ⟨s, Lv, R, po.bind.mono fun v H1 ⟨w, s1, Lv1, _, R1, F1, r1, po1⟩ => fin_D (ws := [w]) R1 ⟨v, [], rfl, r1, rfl⟩ ?_⟩
  have e : (rdL s1 [w]).bind (fun ds => (g ds).map W.d) = (rdW s1 w).bind fun d => (g [d]).map W.d := by
    simp only [rdL]
    cases rdW s1 w <;> rfl
  rw [e]
  exact po1
theorem bin_D {σ : L2.St} {H : Hp} {Q : VK} {g : List D → Option D} (h : tE Z Γ (eBin g fa fb) σ H Q) : tOp (rD2 Z g) (tE Z Γ fa) (tE Z Γ fb) σ H Q := by
  obtain ⟨s, Lv, R, po⟩ := h
  refine ⟨s, Lv, R, po.bind.mono fun v H1 ⟨w, s1, Lv1, _, R1, F1, r1, po1⟩ => ⟨s1, Lv1, R1, po1.bind.mono fun u H2 ⟨w2, s2, Lv2, _, R2, F2, r2, po2⟩ => ?_⟩⟩
  exact fin_D (ws := [w, w2]) R2 ⟨v, [u], rfl, r1.mono F2, u, [], rfl, r2, rfl⟩ po2
theorem de_bin {op : Operator} {g : List D → Option D} (ho : OpR X (binaryOp op) (rD2 Z g)) (ha : PE X a (tE Z Γ fa)) (hb : PE X b (tE Z Γ fb)) : PE X (.BinOp a op b pos) (tE Z Γ (eBin g fa fb)) :=
  pe_imp (pe_op ho ha hb) fun _ _ _ h => bin_D h
theorem de_cmp {op : CmpOp} {g : List D → Option D} (ho : OpR X (compareOp op) (rD2 Z g)) (ha : PE X a (tE Z Γ fa)) (hb : PE X b (tE Z Γ fb)) (hm : behindInMarks op b = false := by first | exact nomark _ | rfl) : PE X (.Compare a [op] [b] pos) (tE Z Γ (eBin g fa fb)) :=
  pe_imp (pe_cmpR ho ha hb hm) fun _ _ _ h => bin_D h
theorem de_ix {g : List D → Option D} (ho : IxR X (rD2 Z g)) (ha : PE X a (tE Z Γ fa)) (hb : PE X b (tE Z Γ fb)) (hs : PlainIx b := by exact fun _ _ => rfl) : PE X (.Subscript a b pos) (tE Z Γ (eBin g fa fb)) :=
  pe_imp (pe_ix ho ha hb hs) fun _ _ _ h => bin_D h

/-! ### and, or, not, if -/
theorem de_and {rest : List Expr} (ha : PE X a (tE Z Γ fa)) (hb : PE X (.BoolOp .And (b :: rest) pos) (tE Z Γ fb)) : PE X (.BoolOp .And (a :: b :: rest) pos) (tE Z Γ (eAnd fa fb)) := by
  refine pe_imp (pe_and ha hb) fun σ H Q h => ?_
  obtain ⟨s, Lv, R, po⟩ := h
  refine ⟨s, Lv, R, po.bind.mono fun v H1 ⟨w, s1, Lv1, _, R1, F1, r1, po1⟩ => ?_⟩
  split at po1
  · refine ⟨true, by simpa only [WRep, Rep] using r1, ?_⟩
    rw [if_pos rfl]
    exact ⟨s1, Lv1, R1, po1⟩
  · refine ⟨false, by simpa only [WRep, Rep] using r1, ?_⟩
    rw [if_neg Bool.false_ne_true]
    exact po1.ok R1 (by simp only [WRep, Rep])
  · exact po1.elim
theorem de_or {rest : List Expr} (ha : PE X a (tE Z Γ fa)) (hb : PE X (.BoolOp .Or (b :: rest) pos) (tE Z Γ fb)) : PE X (.BoolOp .Or (a :: b :: rest) pos) (tE Z Γ (eOr fa fb)) := by
  refine pe_imp (pe_or ha hb) fun σ H Q h => ?_
  obtain ⟨s, Lv, R, po⟩ := h
  refine ⟨s, Lv, R, po.bind.mono fun v H1 ⟨w, s1, Lv1, _, R1, F1, r1, po1⟩ => ?_⟩
  split at po1
  · refine ⟨false, by simpa only [WRep, Rep] using r1, ?_⟩
    rw [if_neg Bool.false_ne_true]
    exact ⟨s1, Lv1, R1, po1⟩
  · refine ⟨true, by simpa only [WRep, Rep] using r1, ?_⟩
    rw [if_pos rfl]
    exact po1.ok R1 (by simp only [WRep, Rep])
  · exact po1.elim
theorem de_one {op} (h : PE X a (tE Z Γ fa)) : PE X (.BoolOp op [a] pos) (tE Z Γ fa) := pe_one h
theorem de_not (ha : PE X a (tE Z Γ fa)) : PE X (.UnaryOp .Not a pos) (tE Z Γ (eUn gNot fa)) := by
  refine pe_imp (pe_not ha) fun σ H Q h => ?_
  obtain ⟨s, Lv, R, po⟩ := h
  refine ⟨s, Lv, R, po.bind.mono fun v H1 ⟨w, s1, Lv1, _, R1, F1, r1, po1⟩ => ?_⟩
  cases e1 : rdW s1 w with
  | none => rw [e1] at po1; exact po1.elim
  | some d =>
    rw [e1] at po1
    simp only [Option.bind_some] at po1
    cases d with
    | bl c =>
      simp only [gNot, Option.map_some, ofO_some] at po1
      have r := rd_ok R1 r1 e1
      have hv : v = .bl c := by
        rcases r with r | ⟨o, L, q, _⟩
        · simpa only [Rep] using r
        · cases o <;> cases q
      exact ⟨c, hv, po1.ok R1 (by simp only [WRep, Rep])⟩
    | _ => exact po1.elim
theorem de_if {c : Expr} (hc : PT X c (tT Z Γ ga)) (ha : PE X a (tE Z Γ fa)) (hb : PE X b (tE Z Γ fb)) : PE X (.IfExp c a b pos) (tE Z Γ (eIf ga fa fb)) := by
  refine pe_imp (pe_ifExp hc ha hb) fun σ H Q h => ?_
  obtain ⟨s, Lv, R, po⟩ := h
  refine ⟨s, Lv, R, po.bind.mono fun v H1 ⟨w, s1, Lv1, _, R1, F1, r1, po1⟩ => ?_⟩
  subst r1
  cases w with
  | true => rw [if_pos rfl] at po1 ⊢; exact ⟨s1, Lv1, R1, po1⟩
  | false => rw [if_neg Bool.false_ne_true] at po1 ⊢; exact ⟨s1, Lv1, R1, po1⟩

/-! ### tests -/
theorem Rep.ins_ref {Y : Addr → Prop} {H : Hp} {c : Str} {ns : List Str} {vs : List D} {v : V} (h : Rep Z Y H (.ins c ns vs) v) : ∃ a, v = .ref a := by
  simp only [Rep] at h
  obtain ⟨a, _, _, _, e, _⟩ := h
  exact ⟨a, e⟩
theorem vw_lst {Y : Addr → Prop} {H : Hp} {ds : List D} {v : V} (h : Vw Z Y H (.lst ds) v) : ∃ a vs, v = .ref a ∧ H a = some (.lst vs) ∧ RepL Z Y H ds vs := by
  rcases h with h | ⟨o, L, q, h⟩
  · simp only [Rep] at h
    obtain ⟨a, vs, e, _, r, h⟩ := h
    exact ⟨a, vs, e, r, h⟩
  · cases o with
    | lst xs =>
      cases q
      obtain ⟨a, vs, e, _, r, h⟩ := h
      exact ⟨a, vs, e, r, h⟩
    | _ => cases q
theorem vw_tup {Y : Addr → Prop} {H : Hp} {ds : List D} {v : V} (h : Vw Z Y H (.tup ds) v) : ∃ a vs, v = .ref a ∧ SqT Z.K H a vs ∧ RepL Z Y H ds vs := by
  rcases h with h | ⟨o, L, q, h⟩
  · simp only [Rep] at h
    obtain ⟨a, vs, e, r, h⟩ := h
    exact ⟨a, vs, e, r.sq, h⟩
  · cases o <;> cases q
theorem vw_int {Y : Addr → Prop} {H : Hp} {i : Int} {v : V} (h : Vw Z Y H (.int i) v) : v = .int i := by
  rcases h with h | ⟨o, L, q, h⟩
  · simpa only [Rep] using h
  · cases o <;> cases q
theorem vw_bl {Y : Addr → Prop} {H : Hp} {i : Bool} {v : V} (h : Vw Z Y H (.bl i) v) : v = .bl i := by
  rcases h with h | ⟨o, L, q, h⟩
  · simpa only [Rep] using h
  · cases o <;> cases q
theorem vw_str {Y : Addr → Prop} {H : Hp} {i : Str} {v : V} (h : Vw Z Y H (.str i) v) : v = .str i := by
  rcases h with h | ⟨o, L, q, h⟩
  · simpa only [Rep] using h
  · cases o <;> cases q
theorem vw_non {Y : Addr → Prop} {H : Hp} {v : V} (h : Vw Z Y H .non v) : v = .non := by
  rcases h with h | ⟨o, L, q, h⟩
  · simpa only [Rep] using h
  · cases o <;> cases q
theorem vw_dic {Y : Addr → Prop} {H : Hp} {ks : List Key} {ds : List D} {v : V} (h : Vw Z Y H (.dic ks ds) v) : ∃ a vs, v = .ref a ∧ ks.length = vs.length ∧ H a = some (.dK (ks.zip vs)) ∧ RepL Z Y H ds vs := by
  rcases h with h | ⟨o, L, q, h⟩
  · simp only [Rep] at h
    obtain ⟨a, vs, e, _, l, r, h⟩ := h
    exact ⟨a, vs, e, l, r, h⟩
  · cases o with
    | dic ks' xs =>
      cases q
      obtain ⟨a, vs, e, _, l, r, h⟩ := h
      exact ⟨a, vs, e, l, r, h⟩
    | _ => cases q
theorem vw_dit {Y : Addr → Prop} {H : Hp} {ks : List (List Key)} {ds : List D} {v : V} (h : Vw Z Y H (.dit ks ds) v) : ∃ a vs, v = .ref a ∧ ks.length = vs.length ∧ H a = some (.dT (ks.zip vs)) ∧ RepL Z Y H ds vs := by
  rcases h with h | ⟨o, L, q, h⟩
  · simp only [Rep] at h
    obtain ⟨a, vs, e, _, l, r, h⟩ := h
    exact ⟨a, vs, e, l, r, h⟩
  · cases o with
    | dit ks' xs =>
      cases q
      obtain ⟨a, vs, e, _, l, r, h⟩ := h
      exact ⟨a, vs, e, l, r, h⟩
    | _ => cases q
theorem vw_ins {Y : Addr → Prop} {H : Hp} {c : Str} {ns : List Str} {ds : List D} {v : V} (h : Vw Z Y H (.ins c ns ds) v) : ∃ a C dx vs, v = .ref a ∧ Z.mg c = some (.ref C) ∧ H a = some (.ins C dx (ns.zip vs)) ∧ ns.length = vs.length := by
  rcases h with h | ⟨o, L, q, h⟩
  · simp only [Rep] at h
    obtain ⟨a, C, dx, vs, e, _, l, m, r, h⟩ := h
    exact ⟨a, C, dx, vs, e, m, r, l⟩
  · cases o with
    | ins c' ns' xs =>
      cases q
      obtain ⟨a, C, dx, vs, As, e, _, l, m, r, h⟩ := h
      exact ⟨a, C, dx, vs, e, m, r, l⟩
    | _ => cases q
theorem lim_line {n : Nat} (h : n ≤ 1000000) : n ≤ sizeLine := Nat.le_trans h (by rw [sizeLine_eq]; decide)
theorem tru_D {Y : Addr → Prop} {H : Hp} {d : D} {v : V} {k : Bool} (hK : X.K = Z.K) (h : Vw Z Y H d v) (e : truD d = some k) : TruV X.K v H k := by
  cases d with
  | non => rw [vw_non h]; cases e; rfl
  | bl b => rw [vw_bl h]; cases e; rfl
  | int i => rw [vw_int h]; cases e; rfl
  | str z =>
    rw [vw_str h]
    simp only [truD] at e
    split at e
    · rename_i hz
      cases e
      refine ⟨lim_line hz, ?_⟩
      cases hn : z.length with
      | zero => rfl
      | succ n => simp only [bne, Bool.not_inj_iff]; rfl
    · cases e
  | tup ds =>
    obtain ⟨a, vs, rfl, t, r⟩ := vw_tup h
    simp only [truD] at e
    cases e
    refine .inr (.inl ⟨vs, by rw [hK]; exact t, ?_⟩)
    have hl := r.length
    cases ds <;> cases vs <;> simp_all
  | lst ds =>
    obtain ⟨a, vs, rfl, t, r⟩ := vw_lst h
    simp only [truD] at e
    cases e
    refine .inl ⟨vs, .inl (.inl t), ?_⟩
    have hl := r.length
    cases ds <;> cases vs <;> simp_all
  | _ => cases e
theorem dt_val (ha : PE X a (tE Z Γ fa)) (hK : X.K = Z.K := by rfl) (he : ∀ whole, isTrue a X.env whole = (do let v ← whole; standAt a.pos; holding [v] (truthy v)) := by intro _; rfl) : PT X a (tT Z Γ (cVal fa)) := by
  refine pt_imp (pt_truth ha he) fun σ H Q h => ?_
  obtain ⟨s, Lv, R, po⟩ := h
  refine ⟨s, Lv, R, po.bind.mono fun v H1 ⟨w, s1, Lv1, _, R1, F1, r1, po1⟩ => ?_⟩
  cases e1 : rdW s1 w with
  | none => rw [e1] at po1; exact po1.elim
  | some d =>
    rw [e1] at po1
    simp only [Option.bind_some] at po1
    cases e2 : truD d with
    | none => rw [e2] at po1; exact po1.elim
    | some k =>
      rw [e2] at po1
      exact ⟨k, tru_D hK (rd_ok R1 r1 e1) e2, po1.ok R1 rfl⟩
theorem dw_and1 (ha : PT X a (tT Z Γ ga)) : PW X (.BoolOp .And [a] pos) (tT Z Γ ga) := pw_and1 ha
theorem dw_or1 (ha : PT X a (tT Z Γ ga)) : PW X (.BoolOp .Or [a] pos) (tT Z Γ ga) := pw_or1 ha
theorem dw_and {rest : List Expr} (ha : PT X a (tT Z Γ ga)) (hb : PW X (.BoolOp .And (b :: rest) pos) (tT Z Γ gb)) : PW X (.BoolOp .And (a :: b :: rest) pos) (tT Z Γ (cAnd ga gb)) := by
  refine pw_imp (pw_and ha hb) fun σ H Q h => ?_
  obtain ⟨s, Lv, R, po⟩ := h
  refine ⟨s, Lv, R, po.bind.mono fun v H1 ⟨w, s1, Lv1, _, R1, F1, r1, po1⟩ => ?_⟩
  subst r1
  cases w with
  | true => rw [if_pos rfl] at po1 ⊢; exact ⟨s1, Lv1, R1, po1⟩
  | false => rw [if_neg Bool.false_ne_true] at po1 ⊢; exact po1.ok R1 rfl
theorem dw_or {rest : List Expr} (ha : PT X a (tT Z Γ ga)) (hb : PW X (.BoolOp .Or (b :: rest) pos) (tT Z Γ gb)) : PW X (.BoolOp .Or (a :: b :: rest) pos) (tT Z Γ (cOr ga gb)) := by
  refine pw_imp (pw_or ha hb) fun σ H Q h => ?_
  obtain ⟨s, Lv, R, po⟩ := h
  refine ⟨s, Lv, R, po.bind.mono fun v H1 ⟨w, s1, Lv1, _, R1, F1, r1, po1⟩ => ?_⟩
  subst r1
  cases w with
  | true => rw [if_pos rfl] at po1 ⊢; exact po1.ok R1 rfl
  | false => rw [if_neg Bool.false_ne_true] at po1 ⊢; exact ⟨s1, Lv1, R1, po1⟩
theorem dt_bool {op : BoolOp} {vs : List Expr} (h : PW X (.BoolOp op vs pos) (tT Z Γ ga)) : PT X (.BoolOp op vs pos) (tT Z Γ ga) := h.pt
theorem dt_not (ha : PT X a (tT Z Γ ga)) : PT X (.UnaryOp .Not a pos) (tT Z Γ (cNot ga)) := by
  refine pt_imp (pt_not ha) fun σ H Q h => ?_
  obtain ⟨s, Lv, R, po⟩ := h
  refine ⟨s, Lv, R, po.bind.mono fun v H1 ⟨w, s1, Lv1, _, R1, F1, r1, po1⟩ => ?_⟩
  subst r1
  exact po1.ok R1 rfl

/-! ### arguments, displays -/
theorem da_nil : PA X [] (tA Z Γ aNil) := by
  refine pa_imp pa_nil fun σ H Q h => ?_
  obtain ⟨s, Lv, R, po⟩ := h
  exact po.ok R rfl
theorem da_cons (ha : PE X e (tE Z Γ fa)) (hr : PA X es (tA Z Γ fs)) (hs : starEach (e :: es) X.env = (false, eval e X.env) :: starEach es X.env := by rfl) : PA X (e :: es) (tA Z Γ (aCons fa fs)) := by
  refine pa_imp (pa_cons ha hr hs) fun σ H Q h => ?_
  obtain ⟨s, Lv, R, po⟩ := h
  refine ⟨s, Lv, R, po.bind.mono fun v H1 ⟨w, s1, Lv1, _, R1, F1, r1, po1⟩ => ⟨s1, Lv1, R1, po1.bind.mono fun vs H2 ⟨ws, s2, Lv2, _, R2, F2, r2, po2⟩ => ?_⟩⟩
  exact po2.ok R2 ⟨v, vs, rfl, r1.mono F2, r2⟩
end
/-- a tuple, a list (as data) of written items -/
def eTup (f : S → R (List W)) : S → R W := fun s => (f s).bind fun ws s1 => ofO s1 ((fzL ws).bind fun ds => if ds.length ≤ 1000000 then some (W.d (.tup ds)) else none)
def eLst (f : S → R (List W)) : S → R W := fun s => (f s).bind fun ws s1 => ofO s1 ((fzL ws).bind fun ds => if ds.length ≤ 1000000 then some (W.d (.lst ds)) else none)
section
variable {X : Cx} {Z : Zt} {Γ : Gm} {a b e : Expr} {es : List Expr} {pos : Pos} {fs : S → R (List W)}
theorem same_new {H : Hp} {p : Addr} {o : HO} (h : H p = none) : Same H (upd H p o) := fun b x e => by
  rw [upd_ne (ne_of_none e h)]
  exact e
theorem de_tup {x1} (h : PA X es (tA Z Γ fs)) : PE X (.Tuple es x1 pos) (tE Z Γ (eTup fs)) := by
  refine pe_imp (pe_tup h) fun σ H Q h => ?_
  obtain ⟨s, Lv, R, po⟩ := h
  refine ⟨s, Lv, R, po.bind.mono fun vs H1 ⟨ws, s1, Lv1, _, R1, F1, r1, po1⟩ => ?_⟩
  cases e1 : fzL ws with
  | none => rw [e1] at po1; exact po1.elim
  | some ds =>
    rw [e1] at po1
    simp only [Option.bind_some] at po1
    by_cases hl : ds.length ≤ 1000000
    · rw [if_pos hl] at po1
      have r := fzL_ok r1 e1
      refine ⟨by rw [← r.length]; exact lim_line hl, fun p np => ?_⟩
      have sm : Same H1 (upd H1 p (.tup vs)) := same_new np
      refine po1.ok' R1 sm ?_
      simp only [WRep, Rep]
      exact ⟨p, vs, rfl, .inl ⟨fun q => R1.xs q np, upd_same⟩, r.mono (Fw.same sm)⟩
    · rw [if_neg hl] at po1; exact po1.elim
theorem de_lst (h : PA X es (tA Z Γ fs)) : PE X (.List es pos) (tE Z Γ (eLst fs)) := by
  refine pe_imp (pe_lst h) fun σ H Q h => ?_
  obtain ⟨s, Lv, R, po⟩ := h
  refine ⟨s, Lv, R, po.bind.mono fun vs H1 ⟨ws, s1, Lv1, _, R1, F1, r1, po1⟩ => ?_⟩
  cases e1 : fzL ws with
  | none => rw [e1] at po1; exact po1.elim
  | some ds =>
    rw [e1] at po1
    simp only [Option.bind_some] at po1
    by_cases hl : ds.length ≤ 1000000
    · rw [if_pos hl] at po1
      have r := fzL_ok r1 e1
      refine ⟨by rw [← r.length]; exact lim_line hl, fun p np => ?_⟩
      have sm : Same H1 (upd H1 p (.lst vs)) := same_new np
      refine po1.ok' R1 sm ?_
      simp only [WRep, Rep]
      exact ⟨p, vs, rfl, fun q => R1.xs q np, upd_same, r.mono (Fw.same sm)⟩
    · rw [if_neg hl] at po1; exact po1.elim
/-- a built-in function, a built-in class, by its name -/
theorem de_callB {x : Str} {p : Pos} {id : String} {g : List D → Option D} (hc : CallR X (.builtin id) (rD Z g)) (hg : Gl X x) (hm : X.mg x = none) (hv : bootBuiltins x = some (.builtin id)) (ha : PA X (e :: es) (tA Z Γ fs)) (hn : x ≠ "__name__" := by decide) (hdb : (x == ("__debug__" : Str)) = false := by decide)
    (he : starEach (e :: es) X.env = (false, eval e X.env) :: starEach es X.env := by rfl) (hpl : (backTo pos (starEach es X.env)).any (·.1) = false := by rfl) : PE X (.Call (.Name x p) (e :: es) [] pos) (tE Z Γ (eApp g fs)) := by
  refine pe_imp (pe_callB hc hg hm hv ha hn hdb he hpl) fun σ H Q h => ?_
  obtain ⟨s, Lv, R, po⟩ := h
  exact ⟨s, Lv, R, po.bind.mono fun vs H1 ⟨ws, s1, Lv1, _, R1, F1, r1, po1⟩ => fin_D R1 r1 po1⟩
end
end PD

set_option linter.all false
set_option maxRecDepth 100000
/-! PD5: operations on data. -/
namespace PD
open PySem PySem.Spec PyProof.Rows L2

def lim : Nat := 1000000
mutual
def D.toP : D → Option PyData
  | .non => some .none
  | .bl b => some (.bool b)
  | .int i => some (.int i)
  | .str s => some (.str s)
  | .tup ds => (toPL ds).map .tuple
  | .lst ds => (toPL ds).map .list
  | _ => none
def toPL : List D → Option (List PyData)
  | [] => some []
  | d :: ds => (D.toP d).bind fun p => (toPL ds).map (p :: ·)
end
section
variable {X : Cx} {Z : Zt} {Y : Addr → Prop} {H : Hp}
theorem vw1 {ds : List D} {x : V} (h : VwL Z Y H ds [x]) : ∃ d, ds = [d] ∧ Vw Z Y H d x := by
  match ds, h with
  | [], h => cases h
  | [d], ⟨v, vr, e, r, h⟩ => cases e; exact ⟨d, rfl, r⟩
  | d :: d2 :: _, ⟨v, vr, e, r, h⟩ => cases e; obtain ⟨_, _, e, _⟩ := h; cases e
theorem vw2 {ds : List D} {x y : V} (h : VwL Z Y H ds [x, y]) : ∃ d e, ds = [d, e] ∧ Vw Z Y H d x ∧ Vw Z Y H e y := by
  match ds, h with
  | [], h => cases h
  | d :: ds, ⟨v, vr, e, r, h⟩ =>
    cases e
    obtain ⟨d2, rfl, r2⟩ := vw1 h
    exact ⟨d, d2, rfl, r, r2⟩
theorem vw3 {ds : List D} {x y z : V} (h : VwL Z Y H ds [x, y, z]) : ∃ d e f, ds = [d, e, f] ∧ Vw Z Y H d x ∧ Vw Z Y H e y ∧ Vw Z Y H f z := by
  match ds, h with
  | [], h => cases h
  | d :: ds, ⟨v, vr, e, r, h⟩ =>
    cases e
    obtain ⟨d2, d3, rfl, r2, r3⟩ := vw2 h
    exact ⟨d, d2, d3, rfl, r, r2, r3⟩
theorem rep_int {i : Int} : Rep Z Y H (.int i) (.int i) := by simp only [Rep]
theorem rep_bl {i : Bool} : Rep Z Y H (.bl i) (.bl i) := by simp only [Rep]
theorem rep_str {i : Str} : Rep Z Y H (.str i) (.str i) := by simp only [Rep]
theorem rep_non : Rep Z Y H .non .non := by simp only [Rep]
theorem rep_lst {ds : List D} {vs : List V} {p : Addr} (hx : ∀ a, Y a → H a ≠ none) (np : H p = none) (r : RepL Z Y H ds vs) : Rep Z Y (upd H p (.lst vs)) (.lst ds) (.ref p) := by
  simp only [Rep]
  exact ⟨p, vs, rfl, fun q => hx p q np, upd_same, r.mono (Fw.same (same_new np))⟩
theorem rep_tup {ds : List D} {vs : List V} {p : Addr} (hx : ∀ a, Y a → H a ≠ none) (np : H p = none) (r : RepL Z Y H ds vs) : Rep Z Y (upd H p (.tup vs)) (.tup ds) (.ref p) := by
  simp only [Rep]
  exact ⟨p, vs, rfl, .inl ⟨fun q => hx p q np, upd_same⟩, r.mono (Fw.same (same_new np))⟩
theorem rep_of_tup {ds : List D} {v : V} (h : Vw Z Y H (.tup ds) v) : Rep Z Y H (.tup ds) v := by
  rcases h with h | ⟨o, L, q, h⟩
  · exact h
  · cases o <;> cases q

mutual
theorem rep_dp : ∀ {d : D} {v : V} {p : PyData}, Rep Z Y H d v → d.toP = some p → Dp Z.K H v p
  | .non, v, p, h, e => by simp only [Rep] at h; simp only [D.toP] at e; cases e; subst h; exact .non
  | .bl b, v, p, h, e => by simp only [Rep] at h; simp only [D.toP] at e; cases e; subst h; exact .bl b
  | .int b, v, p, h, e => by simp only [Rep] at h; simp only [D.toP] at e; cases e; subst h; exact .int b
  | .str b, v, p, h, e => by simp only [Rep] at h; simp only [D.toP] at e; cases e; subst h; exact .str b
  | .tup ds, v, p, h, e => by
    simp only [Rep] at h
    obtain ⟨a, vs, rfl, t, r⟩ := h
    simp only [D.toP] at e
    cases q : toPL ds with
    | none => rw [q] at e; cases e
    | some ps => rw [q] at e; cases e; exact .tup t.sq (rep_dpL r q)
  | .lst ds, v, p, h, e => by
    simp only [Rep] at h
    obtain ⟨a, vs, rfl, n, t, r⟩ := h
    simp only [D.toP] at e
    cases q : toPL ds with
    | none => rw [q] at e; cases e
    | some ps => rw [q] at e; cases e; exact .lst (.of t) (rep_dpL r q)
  | .dic _ _, v, p, h, e => by simp only [D.toP] at e; cases e
  | .dit _ _, v, p, h, e => by simp only [D.toP] at e; cases e
  | .ins _ _ _, v, p, h, e => by simp only [D.toP] at e; cases e
  | .fn _, v, p, h, e => by simp only [D.toP] at e; cases e
  | .scr _, v, p, h, e => by simp only [D.toP] at e; cases e
theorem rep_dpL : ∀ {ds : List D} {vs : List V} {ps : List PyData}, RepL Z Y H ds vs → toPL ds = some ps → DpAll Z.K H vs ps
  | [], vs, ps, h, e => by simp only [RepL] at h; simp only [toPL] at e; cases e; subst h; exact .nil
  | d :: ds, vs, ps, h, e => by
    simp only [RepL] at h
    obtain ⟨v, vr, rfl, r, h⟩ := h
    simp only [toPL] at e
    cases q : D.toP d with
    | none => rw [q] at e; cases e
    | some p =>
      cases q2 : toPL ds with
      | none => rw [q, q2] at e; cases e
      | some pr => rw [q, q2] at e; cases e; exact .cons (rep_dp r q) (rep_dpL h q2)
end
theorem vw_dp {d : D} {v : V} {p : PyData} (h : Vw Z Y H d v) (e : d.toP = some p) : Dp Z.K H v p := by
  rcases h with h | ⟨o, L, q, h⟩
  · exact rep_dp h e
  · cases o with
    | lst ds =>
      subst q
      obtain ⟨a, vs, rfl, _, t, r⟩ := h
      simp only [O.toD, D.toP] at e
      cases q : toPL ds with
      | none => rw [q] at e; cases e
      | some ps => rw [q] at e; cases e; exact .lst (.of t) (rep_dpL r q)
    | _ => subst q; simp only [O.toD, D.toP] at e; cases e
end

/-! ### the operations -/
def gAdd : List D → Option D
  | [.int i, .int j] => some (.int (i + j))
  | [.str x, .str y] => if x.length + y.length ≤ lim then some (.str (x ++ y)) else none
  | [.lst xs, .lst ys] => if xs.length + ys.length ≤ lim then some (.lst (xs ++ ys)) else none
  | [.tup xs, .tup ys] => if xs.length + ys.length ≤ lim then some (.tup (xs ++ ys)) else none
  | _ => none
def gSub : List D → Option D
  | [.int i, .int j] => some (.int (i - j))
  | _ => none
/-- below 2 ^ 4000 -/
def small (i : Int) : Bool := decide (i.natAbs.log2 < 4000)
def gMul : List D → Option D
  | [.int i, .int j] => if small i && small j then some (.int (i * j)) else none
  | [.lst xs, .int k] => if (0 ≤ k ∧ k ≤ 10000) ∧ xs.length ≤ 100 then some (.lst (List.replicate k.toNat xs).flatten) else none
  | _ => none
def gDiv : List D → Option D
  | [.int i, .int j] => if 0 < j ∧ small j then some (.int (i / j)) else none
  | _ => none
def gMod : List D → Option D
  | [.int i, .int j] => if 0 < j then some (.int (i % j)) else none
  | _ => none
def gPow : List D → Option D
  | [.int i, .int j] => if 0 ≤ j ∧ j ≤ 1000 ∧ i.natAbs < 2 ^ 64 then some (.int (i ^ j.toNat)) else none
  | _ => none
def gNeg : List D → Option D
  | [.int i] => some (.int (-i))
  | _ => none
def gLe : List D → Option D
  | [.int i, .int j] => some (.bl (decide (i ≤ j)))
  | _ => none
def gGt : List D → Option D
  | [.int i, .int j] => some (.bl (decide (j < i)))
  | _ => none
def gGe : List D → Option D
  | [.int i, .int j] => some (.bl (decide (j ≤ i)))
  | _ => none
def dok (d : D) : Option PyData := d.toP.bind fun p => if SeqAt.shaped p then some p else none
def gEq : List D → Option D
  | [d, e] => (dok d).bind fun p => (dok e).bind fun q => some (.bl (PyData.eqv p q))
  | _ => none
def gNe : List D → Option D
  | [d, e] => (dok d).bind fun p => (dok e).bind fun q => some (.bl (!PyData.eqv p q))
  | _ => none
def allInt : List D → Option (List Int)
  | [] => some []
  | .int i :: ds => (allInt ds).map (i :: ·)
  | _ => none
def allStr : List D → Option (List Str)
  | [] => some []
  | .str i :: ds => (allStr ds).map (i :: ·)
  | _ => none

section
variable {X : Cx} {Z : Zt} {Y : Addr → Prop} {H : Hp}
theorem allInt_map : ∀ {ds : List D} {ns : List Int} {vs : List V}, RepL Z Y H ds vs → allInt ds = some ns → vs = ns.map V.int
  | [], ns, vs, h, e => by simp only [RepL] at h; simp only [allInt] at e; cases e; exact h
  | .int i :: ds, ns, vs, h, e => by
    simp only [RepL] at h
    obtain ⟨v, vr, rfl, r, h⟩ := h
    simp only [Rep] at r
    simp only [allInt] at e
    cases q : allInt ds with
    | none => rw [q] at e; cases e
    | some ms => rw [q] at e; cases e; rw [r, allInt_map h q]; rfl
  | .non :: _, _, _, _, e => by simp only [allInt] at e; cases e
  | .bl _ :: _, _, _, _, e => by simp only [allInt] at e; cases e
  | .str _ :: _, _, _, _, e => by simp only [allInt] at e; cases e
  | .tup _ :: _, _, _, _, e => by simp only [allInt] at e; cases e
  | .lst _ :: _, _, _, _, e => by simp only [allInt] at e; cases e
  | .dic _ _ :: _, _, _, _, e => by simp only [allInt] at e; cases e
  | .dit _ _ :: _, _, _, _, e => by simp only [allInt] at e; cases e
  | .ins _ _ _ :: _, _, _, _, e => by simp only [allInt] at e; cases e
  | .fn _ :: _, _, _, _, e => by simp only [allInt] at e; cases e
  | .scr _ :: _, _, _, _, e => by simp only [allInt] at e; cases e
theorem allStr_map : ∀ {ds : List D} {ns : List Str} {vs : List V}, RepL Z Y H ds vs → allStr ds = some ns → vs = ns.map V.str
  | [], ns, vs, h, e => by simp only [RepL] at h; simp only [allStr] at e; cases e; exact h
  | .str i :: ds, ns, vs, h, e => by
    simp only [RepL] at h
    obtain ⟨v, vr, rfl, r, h⟩ := h
    simp only [Rep] at r
    simp only [allStr] at e
    cases q : allStr ds with
    | none => rw [q] at e; cases e
    | some ms => rw [q] at e; cases e; rw [r, allStr_map h q]; rfl
  | .non :: _, _, _, _, e => by simp only [allStr] at e; cases e
  | .bl _ :: _, _, _, _, e => by simp only [allStr] at e; cases e
  | .int _ :: _, _, _, _, e => by simp only [allStr] at e; cases e
  | .tup _ :: _, _, _, _, e => by simp only [allStr] at e; cases e
  | .lst _ :: _, _, _, _, e => by simp only [allStr] at e; cases e
  | .dic _ _ :: _, _, _, _, e => by simp only [allStr] at e; cases e
  | .dit _ _ :: _, _, _, _, e => by simp only [allStr] at e; cases e
  | .ins _ _ _ :: _, _, _, _, e => by simp only [allStr] at e; cases e
  | .fn _ :: _, _, _, _, e => by simp only [allStr] at e; cases e
  | .scr _ :: _, _, _, _, e => by simp only [allStr] at e; cases e
theorem log2_pow {i : Int} {n : Nat} (h : i.natAbs.log2 < n) : i.natAbs < 2 ^ n := by
  by_cases h0 : i.natAbs = 0
  · rw [h0]; exact Nat.two_pow_pos n
  · exact (Nat.log2_lt h0).mp h

theorem od_add (hK : X.K = Z.K) : OpR X (binaryOp .Add) (rD2 Z gAdd) := by
  intro pins s σ H x y v u Q I rx ry h
  obtain ⟨Xs, ds, d, hx, hv, hg, q⟩ := h
  obtain ⟨d1, d2, rfl, h1, h2⟩ := vw2 hv
  unfold gAdd at hg
  split at hg
  · rename_i i j e
    cases e; cases hg
    exact op_add pins s σ H x y v u Q I rx ry ⟨i, j, vw_int h1, vw_int h2, q _ H (Same.refl H) rep_int⟩
  · rename_i i j e
    cases e
    split at hg
    · rename_i hl
      cases hg
      exact op_add_str pins s σ H x y v u Q I rx ry ⟨i, j, vw_str h1, vw_str h2, lim_line hl, q _ H (Same.refl H) rep_str⟩
    · cases hg
  · rename_i i j e
    cases e
    split at hg
    · rename_i hl
      cases hg
      obtain ⟨a, vs, rfl, ha, r1⟩ := vw_lst h1
      obtain ⟨b, us, rfl, hb, r2⟩ := vw_lst h2
      exact op_cat pins s σ H _ _ v u Q I rx ry ⟨a, b, vs, us, rfl, rfl, ha, hb, by rw [← r1.length, ← r2.length]; exact lim_line hl, fun p np => q _ _ (same_new np) (rep_lst hx np (r1.app r2))⟩
    · cases hg
  · rename_i i j e
    cases e
    split at hg
    · rename_i hl
      cases hg
      have t1 := rep_of_tup h1
      have t2 := rep_of_tup h2
      obtain ⟨a, vs, rfl, ha, r1⟩ := vw_tup h1
      obtain ⟨b, us, rfl, hb, r2⟩ := vw_tup h2
      have e1 := r1.length
      have e2 := r2.length
      refine op_catA pins s σ H _ _ v u Q I rx ry ⟨a, b, vs, us, rfl, rfl, by rw [hK]; exact ha, by rw [hK]; exact hb, by rw [← e1, ← e2]; exact lim_line hl, fun z => ?_, fun z1 z2 => ?_, fun z1 z2 p np => q _ _ (same_new np) (rep_tup hx np (r1.app r2))⟩
      · have : i = [] := List.eq_nil_of_length_eq_zero (by rw [e1, z]; rfl)
        subst this
        exact q _ H (Same.refl H) t2
      · have : j = [] := List.eq_nil_of_length_eq_zero (by rw [e2, z2]; rfl)
        subst this
        rw [List.append_nil] at q
        exact q _ H (Same.refl H) t1
    · cases hg
  · cases hg
theorem od_sub : OpR X (binaryOp .Sub) (rD2 Z gSub) := by
  intro pins s σ H x y v u Q I rx ry h
  obtain ⟨Xs, ds, d, hx, hv, hg, q⟩ := h
  obtain ⟨d1, d2, rfl, h1, h2⟩ := vw2 hv
  unfold gSub at hg
  split at hg
  · rename_i i j e
    cases e; cases hg
    exact op_sub pins s σ H x y v u Q I rx ry ⟨i, j, vw_int h1, vw_int h2, q _ H (Same.refl H) rep_int⟩
  · cases hg
theorem mulW_of {i j : Int} (h : (small i && small j) = true) : CMulW i j := by
  have h1 := (Bool.and_eq_true_iff.mp h).1
  have h2 := (Bool.and_eq_true_iff.mp h).2
  have h1 := of_decide_eq_true h1
  have h2 := of_decide_eq_true h2
  show i.natAbs.log2 + j.natAbs.log2 < 1000000
  omega
theorem od_mul : OpR X (binaryOp .Mult) (rD2 Z gMul) := by
  intro pins s σ H x y v u Q I rx ry h
  obtain ⟨Xs, ds, d, hx, hv, hg, q⟩ := h
  obtain ⟨d1, d2, rfl, h1, h2⟩ := vw2 hv
  unfold gMul at hg
  split at hg
  · rename_i i j e
    cases e
    split at hg
    · rename_i hs
      cases hg
      exact op_mulW pins s σ H x y v u Q I rx ry ⟨i, j, vw_int h1, vw_int h2, mulW_of hs, q _ H (Same.refl H) rep_int⟩
    · cases hg
  · rename_i xs k e
    cases e
    split at hg
    · rename_i hs
      cases hg
      obtain ⟨a, vs, rfl, ha, r1⟩ := vw_lst h1
      cases vw_int h2
      have hz : vs.length * k.toNat ≤ sizeLine := by
        rw [← r1.length]
        exact lim_line (Nat.le_trans (Nat.mul_le_mul hs.2 (show k.toNat ≤ 10000 by omega)) (by decide))
      refine op_rep pins s σ H _ _ v u Q I rx ry ⟨a, k, vs, rfl, rfl, ha, by omega, by omega, hz, fun p np => q _ _ (same_new np) (rep_lst hx np ?_)⟩
      have rep : ∀ n : Nat, RepL Z Xs H (List.replicate n xs).flatten (List.replicate n vs).flatten := fun n => by
        induction n with
        | zero => simp only [List.replicate_zero, List.flatten_nil, RepL]
        | succ n ih => simp only [List.replicate_succ, List.flatten_cons]; exact r1.app ih
      exact rep _
    · cases hg
  · cases hg
theorem od_div : OpR X (binaryOp .FloorDiv) (rD2 Z gDiv) := by
  intro pins s σ H x y v u Q I rx ry h
  obtain ⟨Xs, ds, d, hx, hv, hg, q⟩ := h
  obtain ⟨d1, d2, rfl, h1, h2⟩ := vw2 hv
  unfold gDiv at hg
  split at hg
  · rename_i i j e
    cases e
    split at hg
    · rename_i hs
      cases hg
      have h9 : j.natAbs.log2 < 4000 := of_decide_eq_true hs.2
      exact op_fdivW pins s σ H x y v u Q I rx ry ⟨i, j, vw_int h1, vw_int h2, ⟨hs.1, by omega⟩, q _ H (Same.refl H) rep_int⟩
    · cases hg
  · cases hg
theorem od_mod : OpR X (binaryOp .Mod) (rD2 Z gMod) := by
  intro pins s σ H x y v u Q I rx ry h
  obtain ⟨Xs, ds, d, hx, hv, hg, q⟩ := h
  obtain ⟨d1, d2, rfl, h1, h2⟩ := vw2 hv
  unfold gMod at hg
  split at hg
  · rename_i i j e
    cases e
    split at hg
    · rename_i hs
      cases hg
      exact op_mod pins s σ H x y v u Q I rx ry ⟨i, j, vw_int h1, vw_int h2, hs, q _ H (Same.refl H) rep_int⟩
    · cases hg
  · cases hg
theorem od_pow : OpR X (binaryOp .Pow) (rD2 Z gPow) := by
  intro pins s σ H x y v u Q I rx ry h
  obtain ⟨Xs, ds, d, hx, hv, hg, q⟩ := h
  obtain ⟨d1, d2, rfl, h1, h2⟩ := vw2 hv
  unfold gPow at hg
  split at hg
  · rename_i i j e
    cases e
    split at hg
    · rename_i hs
      cases hg
      exact op_pow pins s σ H x y v u Q I rx ry ⟨i, j, vw_int h1, vw_int h2, ⟨hs.1, by omega, hs.2.2⟩, q _ H (Same.refl H) rep_int⟩
    · cases hg
  · cases hg
theorem od_neg : UnR X (unaryOp .USub) fun x H Q => rD Z gNeg [x] H Q := by
  intro pins s σ H x v Q I rx h
  obtain ⟨Xs, ds, d, hx, hv, hg, q⟩ := h
  obtain ⟨d1, rfl, h1⟩ := vw1 hv
  unfold gNeg at hg
  split at hg
  · rename_i i e
    cases e; cases hg
    exact un_neg pins s σ H x v Q I rx ⟨i, vw_int h1, q _ H (Same.refl H) rep_int⟩
  · cases hg
theorem od_le : OpR X (compareOp .LtE) (rD2 Z gLe) := by
  intro pins s σ H x y v u Q I rx ry h
  obtain ⟨Xs, ds, d, hx, hv, hg, q⟩ := h
  obtain ⟨d1, d2, rfl, h1, h2⟩ := vw2 hv
  unfold gLe at hg
  split at hg
  · rename_i i j e
    cases e; cases hg
    exact op_le pins s σ H x y v u Q I rx ry ⟨i, j, vw_int h1, vw_int h2, q _ H (Same.refl H) rep_bl⟩
  · cases hg
theorem od_gt : OpR X (compareOp .Gt) (rD2 Z gGt) := by
  intro pins s σ H x y v u Q I rx ry h
  obtain ⟨Xs, ds, d, hx, hv, hg, q⟩ := h
  obtain ⟨d1, d2, rfl, h1, h2⟩ := vw2 hv
  unfold gGt at hg
  split at hg
  · rename_i i j e
    cases e; cases hg
    exact op_gt pins s σ H x y v u Q I rx ry ⟨i, j, vw_int h1, vw_int h2, q _ H (Same.refl H) rep_bl⟩
  · cases hg
theorem od_ge : OpR X (compareOp .GtE) (rD2 Z gGe) := by
  intro pins s σ H x y v u Q I rx ry h
  obtain ⟨Xs, ds, d, hx, hv, hg, q⟩ := h
  obtain ⟨d1, d2, rfl, h1, h2⟩ := vw2 hv
  unfold gGe at hg
  split at hg
  · rename_i i j e
    cases e; cases hg
    exact op_ge pins s σ H x y v u Q I rx ry ⟨i, j, vw_int h1, vw_int h2, q _ H (Same.refl H) rep_bl⟩
  · cases hg
theorem dok_ok {d : D} {p : PyData} (h : dok d = some p) : d.toP = some p ∧ SeqAt.shaped p = true := by
  unfold dok at h
  cases e : d.toP with
  | none => rw [e] at h; cases h
  | some r =>
    rw [e] at h
    simp only [Option.bind_some] at h
    split at h
    · rename_i hs
      cases h
      exact ⟨rfl, hs⟩
    · cases h
theorem od_eq (hK : X.K = Z.K) (hu : X.A.units + 64 < cLine) : OpR X (compareOp .Eq) (rD2 Z gEq) := by
  intro pins s σ H x y v u Q I rx ry h
  obtain ⟨Xs, ds, d, hx, hv, hg, q⟩ := h
  obtain ⟨d1, d2, rfl, h1, h2⟩ := vw2 hv
  simp only [gEq] at hg
  cases e1 : dok d1 with
  | none => rw [e1] at hg; cases hg
  | some p1 =>
    cases e2 : dok d2 with
    | none => rw [e1, e2] at hg; cases hg
    | some p2 =>
      rw [e1, e2] at hg
      cases hg
      obtain ⟨t1, s1⟩ := dok_ok e1
      obtain ⟨t2, s2⟩ := dok_ok e2
      exact op_eqD hu pins s σ H x y v u Q I rx ry ⟨p1, p2, by rw [hK]; exact vw_dp h1 t1, by rw [hK]; exact vw_dp h2 t2, s1, s2, q _ H (Same.refl H) rep_bl⟩
theorem od_ne (hK : X.K = Z.K) (hu : X.A.units + 64 < cLine) : OpR X (compareOp .NotEq) (rD2 Z gNe) := by
  intro pins s σ H x y v u Q I rx ry h
  obtain ⟨Xs, ds, d, hx, hv, hg, q⟩ := h
  obtain ⟨d1, d2, rfl, h1, h2⟩ := vw2 hv
  simp only [gNe] at hg
  cases e1 : dok d1 with
  | none => rw [e1] at hg; cases hg
  | some p1 =>
    cases e2 : dok d2 with
    | none => rw [e1, e2] at hg; cases hg
    | some p2 =>
      rw [e1, e2] at hg
      cases hg
      obtain ⟨t1, s1⟩ := dok_ok e1
      obtain ⟨t2, s2⟩ := dok_ok e2
      exact op_neD hu pins s σ H x y v u Q I rx ry ⟨p1, p2, by rw [hK]; exact vw_dp h1 t1, by rw [hK]; exact vw_dp h2 t2, s1, s2, q _ H (Same.refl H) rep_bl⟩
end
end PD

set_option linter.all false
set_option maxRecDepth 100000
/-! PD6: more operations on data: <, in, is, slices, items, built-ins. -/
namespace PD
open PySem PySem.Spec PyProof.Rows L2

def D.isNon : D → Bool
  | .non => true
  | _ => false
def gIsN : List D → Option D
  | [d, .non] => some (.bl d.isNon)
  | _ => none
def gNotN : List D → Option D
  | [d, .non] => some (.bl (!d.isNon))
  | _ => none
def gIsB : List D → Option D
  | [.bl a, .bl b] => some (.bl (decide (a = b)))
  | _ => none
def gNotB : List D → Option D
  | [.bl a, .bl b] => some (.bl (!decide (a = b)))
  | _ => none
def isNonP : PyData → Bool
  | .none => true
  | _ => false
/-- two data that the order tells apart -/
def ord2 (d e : D) : Option (PyData × PyData) := (dok d).bind fun p => (dok e).bind fun q => if PySem.W.alike p q && !isNonP p then some (p, q) else none
def gLt : List D → Option D
  | [d, e] => (ord2 d e).map fun pq => .bl (PySem.W.dataLt pq.1 pq.2)
  | _ => none
/-- an item of a list or a tuple; a sign of a text -/
def gIn : List D → Option D
  | [.str a, .str b] => some (.bl (!(Builtin.Str.occurrences b a 0 b.length 1).isEmpty))
  | [d, .lst xs] => (dok d).bind fun p => (dok (.lst xs)).bind fun q => match q with
    | .list ps => some (.bl (ps.any fun z => PyData.eqv z p))
    | _ => none
  | [d, .tup xs] => (dok d).bind fun p => (dok (.tup xs)).bind fun q => match q with
    | .tuple ps => some (.bl (ps.any fun z => PyData.eqv z p))
    | _ => none
  | _ => none
def gNotIn : List D → Option D
  | [.str a, .str b] => some (.bl (!(!(Builtin.Str.occurrences b a 0 b.length 1).isEmpty)))
  | [d, .lst xs] => (dok d).bind fun p => (dok (.lst xs)).bind fun q => match q with
    | .list ps => some (.bl (!ps.any fun z => PyData.eqv z p))
    | _ => none
  | [d, .tup xs] => (dok d).bind fun p => (dok (.tup xs)).bind fun q => match q with
    | .tuple ps => some (.bl (!ps.any fun z => PyData.eqv z p))
    | _ => none
  | _ => none
def cutD {α : Type} (xs : List α) (lo hi : Option Int) : List α := (xs.drop (HT.sIx xs.length 0 lo)).take (HT.sIx xs.length xs.length hi - HT.sIx xs.length 0 lo)
def gSl (lo hi : Option Int) : D → Option D
  | .lst xs => some (.lst (cutD xs lo hi))
  | .tup xs => some (.tup (cutD xs lo hi))
  | .str z => if z.length ≤ lim then some (.str (cutS z lo hi)) else none
  | _ => none
def gIx : List D → Option D
  | [.lst xs, .int i] => atI xs i
  | [.tup xs, .int i] => atI xs i
  | [.str z, .int i] => if z.length ≤ lim then (atI z.cps.toList i).map fun c => .str ⟨#[c]⟩ else none
  | [.scr xs, .int i] => (atI xs i).map .int
  | _ => none

section
variable {X : Cx} {Z : Zt} {Y : Addr → Prop} {H : Hp}
theorem vw_isNon {d : D} {v : V} (h : Vw Z Y H d v) : decide (v = .non) = d.isNon := by
  cases d with
  | non => rw [vw_non h]; rfl
  | bl b => rw [vw_bl h]; rfl
  | int b => rw [vw_int h]; rfl
  | str b => rw [vw_str h]; rfl
  | tup ds => obtain ⟨a, vs, rfl, _⟩ := vw_tup h; rfl
  | lst ds => obtain ⟨a, vs, rfl, _⟩ := vw_lst h; rfl
  | dic ks ds => obtain ⟨a, vs, rfl, _⟩ := vw_dic h; rfl
  | dit ks ds => obtain ⟨a, vs, rfl, _⟩ := vw_dit h; rfl
  | ins c ns ds => obtain ⟨a, C, dx, vs, rfl, _⟩ := vw_ins h; rfl
  | fn f =>
    rcases h with h | ⟨o, L, q, h⟩
    · simp only [Rep] at h
      obtain ⟨a, rfl, _⟩ := h
      rfl
    · cases o <;> cases q
  | scr xs =>
    rcases h with h | ⟨o, L, q, h⟩
    · simp only [Rep] at h
      obtain ⟨a, rfl, _⟩ := h
      rfl
    · cases o <;> cases q
theorem od_isN : OpR X (compareOp .Is) (rD2 Z gIsN) := by
  intro pins s σ H x y v u Q I rx ry h
  obtain ⟨Xs, ds, d, hx, hv, hg, q⟩ := h
  obtain ⟨d1, d2, rfl, h1, h2⟩ := vw2 hv
  unfold gIsN at hg
  split at hg
  · rename_i i e
    cases e; cases hg
    exact op_isN pins s σ H x y v u Q I rx ry ⟨vw_non h2, by rw [vw_isNon h1]; exact q _ H (Same.refl H) rep_bl⟩
  · cases hg
theorem od_notN : OpR X (compareOp .IsNot) (rD2 Z gNotN) := by
  intro pins s σ H x y v u Q I rx ry h
  obtain ⟨Xs, ds, d, hx, hv, hg, q⟩ := h
  obtain ⟨d1, d2, rfl, h1, h2⟩ := vw2 hv
  unfold gNotN at hg
  split at hg
  · rename_i i e
    cases e; cases hg
    exact op_notN pins s σ H x y v u Q I rx ry ⟨vw_non h2, by rw [vw_isNon h1]; exact q _ H (Same.refl H) rep_bl⟩
  · cases hg
theorem od_isB : OpR X (compareOp .Is) (rD2 Z gIsB) := by
  intro pins s σ H x y v u Q I rx ry h
  obtain ⟨Xs, ds, d, hx, hv, hg, q⟩ := h
  obtain ⟨d1, d2, rfl, h1, h2⟩ := vw2 hv
  unfold gIsB at hg
  split at hg
  · rename_i i j e
    cases e; cases hg
    exact op_is_bl pins s σ H x y v u Q I rx ry ⟨_, _, vw_bl h1, vw_bl h2, q _ H (Same.refl H) rep_bl⟩
  · cases hg
theorem od_notB : OpR X (compareOp .IsNot) (rD2 Z gNotB) := by
  intro pins s σ H x y v u Q I rx ry h
  obtain ⟨Xs, ds, d, hx, hv, hg, q⟩ := h
  obtain ⟨d1, d2, rfl, h1, h2⟩ := vw2 hv
  unfold gNotB at hg
  split at hg
  · rename_i i j e
    cases e; cases hg
    exact op_isnot_bl pins s σ H x y v u Q I rx ry ⟨_, _, vw_bl h1, vw_bl h2, q _ H (Same.refl H) rep_bl⟩
  · cases hg
theorem ord2_ok {d e : D} {pq : PyData × PyData} (h : ord2 d e = some pq) : d.toP = some pq.1 ∧ SeqAt.shaped pq.1 = true ∧ e.toP = some pq.2 ∧ SeqAt.shaped pq.2 = true ∧ PySem.W.alike pq.1 pq.2 = true ∧ pq.1 ≠ .none := by
  unfold ord2 at h
  cases e1 : dok d with
  | none => rw [e1] at h; cases h
  | some p1 =>
    cases e2 : dok e with
    | none => rw [e1, e2] at h; cases h
    | some p2 =>
      rw [e1, e2] at h
      simp only [Option.bind_some] at h
      split at h
      · rename_i hs
        cases h
        obtain ⟨t1, s1⟩ := dok_ok e1
        obtain ⟨t2, s2⟩ := dok_ok e2
        have hs := Bool.and_eq_true_iff.mp hs
        exact ⟨t1, s1, t2, s2, hs.1, fun z => by have q := hs.2; rw [show p1 = .none from z] at q; cases q⟩
      · cases h
theorem od_lt (hK : X.K = Z.K) (hu : X.A.units + 64 < cLine) : OpR X (compareOp .Lt) (rD2 Z gLt) := by
  intro pins s σ H x y v u Q I rx ry h
  obtain ⟨Xs, ds, d, hx, hv, hg, q⟩ := h
  obtain ⟨d1, d2, rfl, h1, h2⟩ := vw2 hv
  simp only [gLt] at hg
  cases e1 : ord2 d1 d2 with
  | none => rw [e1] at hg; cases hg
  | some pq =>
    rw [e1] at hg
    cases hg
    obtain ⟨t1, s1, t2, s2, al, nn⟩ := ord2_ok e1
    have a1 : Dp X.K H x pq.1 := by rw [hK]; exact vw_dp h1 t1
    have a2 : Dp X.K H y pq.2 := by rw [hK]; exact vw_dp h2 t2
    obtain ⟨as, r1⟩ := Dp.reads I _ x v a1 rx
    obtain ⟨bs, r2⟩ := Dp.reads I _ y u a2 ry
    exact PySem.W.lt_data r1 r2 al nn (SeqAt.room_of_shaped s1 hu) ⟨.bl _, H, I, rfl, q _ H (Same.refl H) rep_bl⟩
theorem toP_lst {xs : List D} {p : PyData} (h : (D.lst xs).toP = some p) : ∃ ps, p = .list ps ∧ toPL xs = some ps := by
  simp only [D.toP] at h
  cases e : toPL xs with
  | none => rw [e] at h; cases h
  | some ps => rw [e] at h; cases h; exact ⟨ps, rfl, rfl⟩
theorem toP_tup {xs : List D} {p : PyData} (h : (D.tup xs).toP = some p) : ∃ ps, p = .tuple ps ∧ toPL xs = some ps := by
  simp only [D.toP] at h
  cases e : toPL xs with
  | none => rw [e] at h; cases h
  | some ps => rw [e] at h; cases h; exact ⟨ps, rfl, rfl⟩
theorem od_in (hK : X.K = Z.K) (hu : X.A.units + 65 < cLine) : OpR X (compareOp .In) (rD2 Z gIn) := by
  intro pins s σ H x y v u Q I rx ry h
  obtain ⟨Xs, ds, d, hx, hv, hg, q⟩ := h
  obtain ⟨d1, d2, rfl, h1, h2⟩ := vw2 hv
  unfold gIn at hg
  split at hg
  · rename_i i j e
    cases e; cases hg
    exact op_in_str pins s σ H x y v u Q I rx ry ⟨_, _, vw_str h1, vw_str h2, q _ H (Same.refl H) rep_bl⟩
  · rename_i d' xs e
    cases e
    cases e1 : dok d1 with
    | none => rw [e1] at hg; cases hg
    | some p1 =>
      cases e2 : dok (.lst xs) with
      | none => rw [e1, e2] at hg; cases hg
      | some p2 =>
        obtain ⟨t1, s1⟩ := dok_ok e1
        obtain ⟨t2, s2⟩ := dok_ok e2
        obtain ⟨ps, rfl, _⟩ := toP_lst t2
        rw [e1, e2] at hg
        cases hg
        exact op_inD hu pins s σ H x y v u Q I rx ry ⟨p1, ps, by rw [hK]; exact vw_dp h1 t1, by rw [hK]; exact vw_dp h2 t2, s1, s2, q _ H (Same.refl H) rep_bl⟩
  · rename_i d' xs e
    cases e
    cases e1 : dok d1 with
    | none => rw [e1] at hg; cases hg
    | some p1 =>
      cases e2 : dok (.tup xs) with
      | none => rw [e1, e2] at hg; cases hg
      | some p2 =>
        obtain ⟨t1, s1⟩ := dok_ok e1
        obtain ⟨t2, s2⟩ := dok_ok e2
        obtain ⟨ps, rfl, _⟩ := toP_tup t2
        rw [e1, e2] at hg
        cases hg
        have a1 : Dp X.K H x p1 := by rw [hK]; exact vw_dp h1 t1
        have a2 : Dp X.K H y (.tuple ps) := by rw [hK]; exact vw_dp h2 t2
        obtain ⟨as, r1⟩ := Dp.reads I _ x v a1 rx
        obtain ⟨bs, r2⟩ := Dp.reads I _ y u a2 ry
        exact SeqAt.in_tuple_reads r2 r1 (SeqAt.canLay_of_shaped s2) (SeqAt.canLay_of_shaped s1) (room_in_shaped s1 hu) ⟨.bl _, H, I, rfl, q _ H (Same.refl H) rep_bl⟩
  · cases hg
theorem od_notIn (hK : X.K = Z.K) (hu : X.A.units + 65 < cLine) : OpR X (compareOp .NotIn) (rD2 Z gNotIn) := by
  intro pins s σ H x y v u Q I rx ry h
  obtain ⟨Xs, ds, d, hx, hv, hg, q⟩ := h
  obtain ⟨d1, d2, rfl, h1, h2⟩ := vw2 hv
  unfold gNotIn at hg
  split at hg
  · rename_i i j e
    cases e; cases hg
    exact op_notin_str pins s σ H x y v u Q I rx ry ⟨_, _, vw_str h1, vw_str h2, q _ H (Same.refl H) rep_bl⟩
  · rename_i d' xs e
    cases e
    cases e1 : dok d1 with
    | none => rw [e1] at hg; cases hg
    | some p1 =>
      cases e2 : dok (.lst xs) with
      | none => rw [e1, e2] at hg; cases hg
      | some p2 =>
        obtain ⟨t1, s1⟩ := dok_ok e1
        obtain ⟨t2, s2⟩ := dok_ok e2
        obtain ⟨ps, rfl, _⟩ := toP_lst t2
        rw [e1, e2] at hg
        cases hg
        exact op_notInD hu pins s σ H x y v u Q I rx ry ⟨p1, ps, by rw [hK]; exact vw_dp h1 t1, by rw [hK]; exact vw_dp h2 t2, s1, s2, q _ H (Same.refl H) rep_bl⟩
  · rename_i d' xs e
    cases e
    cases e1 : dok d1 with
    | none => rw [e1] at hg; cases hg
    | some p1 =>
      cases e2 : dok (.tup xs) with
      | none => rw [e1, e2] at hg; cases hg
      | some p2 =>
        obtain ⟨t1, s1⟩ := dok_ok e1
        obtain ⟨t2, s2⟩ := dok_ok e2
        obtain ⟨ps, rfl, _⟩ := toP_tup t2
        rw [e1, e2] at hg
        cases hg
        have a1 : Dp X.K H x p1 := by rw [hK]; exact vw_dp h1 t1
        have a2 : Dp X.K H y (.tuple ps) := by rw [hK]; exact vw_dp h2 t2
        obtain ⟨as, r1⟩ := Dp.reads I _ x v a1 rx
        obtain ⟨bs, r2⟩ := Dp.reads I _ y u a2 ry
        exact SeqAt.notIn_tuple_reads r2 r1 (SeqAt.canLay_of_shaped s2) (SeqAt.canLay_of_shaped s1) (room_in_shaped s1 hu) ⟨.bl _, H, I, rfl, q _ H (Same.refl H) rep_bl⟩
  · cases hg

/-! ### slices, items -/
theorem RepL.cut {ds : List D} {vs : List V} (lo hi : Option Int) (r : RepL Z Y H ds vs) : RepL Z Y H (cutD ds lo hi) (cutV vs lo hi) := by
  unfold cutD cutV
  rw [r.length]
  exact (r.drop _).take _
def rSlD (Z : Zt) : V → Option Int → Option Int → Hp → VK → Prop := fun x lo hi H Q =>
  ∃ (Xs : Addr → Prop) (d e : D), (∀ a, Xs a → H a ≠ none) ∧ Vw Z Xs H d x ∧ gSl lo hi d = some e ∧ ∀ v H', Same H H' → Rep Z Xs H' e v → Q v H'
theorem od_sl (hK : X.K = Z.K) : L2.SlR X (rSlD Z) := by
  intro pins s σ H x v vl vu lo hi sl Q I rx hs pl pu h
  obtain ⟨Xs, d, e, hx, hv, hg, q⟩ := h
  unfold gSl at hg
  split at hg
  · rename_i xs
    cases hg
    obtain ⟨a, vs, rfl, ha, r⟩ := vw_lst hv
    exact sl_list pins s σ H _ v vl vu lo hi sl Q I rx hs pl pu ⟨a, vs, rfl, .of ha, fun p np => q _ _ (same_new np) (rep_lst hx np (r.cut lo hi))⟩
  · rename_i xs
    cases hg
    have t := rep_of_tup hv
    obtain ⟨a, vs, rfl, ha, r⟩ := vw_tup hv
    refine sl_tupA pins s σ H _ v vl vu lo hi sl Q I rx hs pl pu ⟨a, vs, rfl, by rw [hK]; exact ha, fun w => ?_, fun w p np => q _ _ (same_new np) (rep_tup hx np (r.cut lo hi))⟩
    have e : cutD xs lo hi = xs := by
      unfold cutD
      rw [r.length, w.1, w.2]
      simp only [List.drop_zero, Nat.sub_zero]
      exact List.take_of_length_le (by rw [r.length]; exact Nat.le_refl _)
    rw [e] at q
    exact q _ H (Same.refl H) t
  · rename_i z
    split at hg
    · rename_i hz
      cases hg
      cases vw_str hv
      exact sl_str pins s σ H _ v vl vu lo hi sl Q I rx hs pl pu ⟨z, rfl, lim_line hz, q _ H (Same.refl H) rep_str⟩
    · cases hg
  · cases hg
theorem RepL.atI {ds : List D} {vs : List V} {i : Int} {d : D} (r : RepL Z Y H ds vs) (h : atI ds i = some d) : ∃ v, L2.atI vs i = some v ∧ Rep Z Y H d v := by
  unfold L2.atI at h ⊢
  rw [← r.length]
  cases e : ixN ds.length i with
  | none => rw [e] at h; cases h
  | some j =>
    rw [e] at h
    exact r.get h
theorem od_ix (hK : X.K = Z.K) : IxR X (rD2 Z gIx) := by
  intro a0 b0 pins s σ H x y v u Q I rx ry h
  obtain ⟨Xs, ds, d, hx, hv, hg, q⟩ := h
  obtain ⟨d1, d2, rfl, h1, h2⟩ := vw2 hv
  unfold gIx at hg
  split at hg
  · rename_i xs i e
    cases e
    obtain ⟨a, vs, rfl, ha, r⟩ := vw_lst h1
    obtain ⟨w, e2, rw_⟩ := r.atI hg
    exact ix_list a0 b0 pins s σ H _ y v u Q I rx ry ⟨a, vs, i, w, rfl, vw_int h2, .of ha, e2, q _ H (Same.refl H) rw_⟩
  · rename_i xs i e
    cases e
    obtain ⟨a, vs, rfl, ha, r⟩ := vw_tup h1
    obtain ⟨w, e2, rw_⟩ := r.atI hg
    exact ix_tup a0 b0 pins s σ H _ y v u Q I rx ry ⟨a, vs, i, w, rfl, vw_int h2, by rw [hK]; exact ha, e2, q _ H (Same.refl H) rw_⟩
  · rename_i z i e
    cases e
    split at hg
    · rename_i hz
      cases e2 : atI z.cps.toList i with
      | none => rw [e2] at hg; cases hg
      | some c =>
        rw [e2] at hg
        cases hg
        exact ix_str a0 b0 pins s σ H x y v u Q I rx ry ⟨z, i, c, vw_str h1, vw_int h2, lim_line hz, e2, q _ H (Same.refl H) rep_str⟩
    · cases hg
  · rename_i xs i e
    cases e
    cases e2 : atI xs i with
    | none => rw [e2] at hg; cases hg
    | some c =>
      rw [e2] at hg
      cases hg
      have hr : ∃ a, x = .ref a ∧ SqL X.K H a (xs.map V.int) := by
        rcases h1 with h1 | ⟨o, L, q, _⟩
        · simp only [Rep] at h1
          obtain ⟨a, e, t⟩ := h1
          exact ⟨a, e, by rw [hK]; exact t.sq⟩
        · cases o <;> cases q
      obtain ⟨a, rfl, t⟩ := hr
      have e3 : atI (xs.map V.int) i = some (.int c) := by
        unfold L2.atI at e2 ⊢
        rw [List.length_map]
        cases e4 : ixN xs.length i with
        | none => rw [e4] at e2; cases e2
        | some j =>
          rw [e4] at e2
          simp only [Option.bind_some] at e2 ⊢
          rw [List.getElem?_map, e2]
          rfl
      exact ix_list a0 b0 pins s σ H _ y v u Q I rx ry ⟨a, _, i, _, rfl, vw_int h2, t, e3, q _ H (Same.refl H) rep_int⟩
  · cases hg
end
end PD

set_option linter.all false
set_option maxRecDepth 100000
/-! PD7: what is walked, targets, statements. -/
namespace PD
open PySem PySem.Spec PyProof.Rows L2

section
variable {Z : Zt} {Γ : Gm}
theorem tabs_upd {H : Hp} {p : Addr} {o o' : HO} (ho : H p = some o) (ht : ∀ ps, o ≠ .tbl ps) (hc : ∀ c q, o ≠ LamX.CodeO c q) {P : Addr} {q : Str} (h : LamX.TabS H P q) : LamX.TabS (upd H p o') P q := by
  obtain ⟨ps, e, ok, k⟩ := h
  refine ⟨ps, ?_, ok, fun pos cv hcv => ?_⟩
  · rw [upd_ne fun z => ?_]
    · exact e
    · rw [z, ho] at e; exact ht ps (Option.some.inj e)
  · obtain ⟨c, e1, e2⟩ := k pos cv hcv
    refine ⟨c, e1, ?_⟩
    rw [upd_ne fun z => ?_]
    · exact e2
    · rw [z, ho] at e2; exact hc _ q (Option.some.inj e2)
theorem lst_ncode {xs : List V} (c : Addr) (q : Str) : HO.lst xs ≠ LamX.CodeO c q := fun z => by unfold LamX.CodeO at z; cases z
theorem dK_ncode {xs : List (Key × V)} (c : Addr) (q : Str) : HO.dK xs ≠ LamX.CodeO c q := fun z => by unfold LamX.CodeO at z; cases z
theorem dT_ncode {xs : List (List Key × V)} (c : Addr) (q : Str) : HO.dT xs ≠ LamX.CodeO c q := fun z => by unfold LamX.CodeO at z; cases z
theorem ins_ncode {C dx : Addr} {fs : List (Str × V)} (c : Addr) (q : Str) : HO.ins C dx fs ≠ LamX.CodeO c q := fun z => by unfold LamX.CodeO at z; cases z

/-! ### what is walked -/
/-- own objects are no tuples -/
theorem OwnRep.notup {X : Addr → Prop} {H : Hp} {o : O} {v : V} {L : List Addr} (r : OwnRep Z X H o v L) {a : Addr} (hj : a ∈ L) {xs : List V} (h : H a = some (.tup xs)) : False := by
  have fdl : ∀ (fs : List Fd) (vs : List V) (As : List Addr), FdL Z X H fs vs As → a ∉ As := by
    intro fs
    induction fs with
    | nil => intro vs As h h2; rw [h.2] at h2; cases h2
    | cons f fs ih =>
      intro vs As h2 h3
      cases f with
      | d x =>
        obtain ⟨_, vr, _, _, h2⟩ := h2
        exact ih vr As h2 h3
      | l ds =>
        obtain ⟨b, vr, ws, Ar, _, e2, e3, _, h2⟩ := h2
        subst e2
        rcases List.mem_cons.mp h3 with z | z
        · rw [z, e3] at h; cases h
        · exact ih vr Ar h2 z
  cases o with
  | lst ds =>
    obtain ⟨b, vs, _, e2, e3, _⟩ := r
    rw [e2] at hj
    rw [List.mem_singleton.mp hj, e3] at h; cases h
  | dic ks ds =>
    obtain ⟨b, vs, _, e2, _, e3, _⟩ := r
    rw [e2] at hj
    rw [List.mem_singleton.mp hj, e3] at h; cases h
  | dit ks ds =>
    obtain ⟨b, vs, _, e2, _, e3, _⟩ := r
    rw [e2] at hj
    rw [List.mem_singleton.mp hj, e3] at h; cases h
  | ins c ns fs =>
    obtain ⟨b, C, dx, vs, As, _, e2, _, _, e3, r⟩ := r
    rw [e2] at hj
    rcases List.mem_cons.mp hj with z | z
    · rw [z, e3] at h; cases h
    · exact fdl _ _ _ r z
/-- no tuple is forbidden -/
def Gm.NT (Γ : Gm) : Prop := Γ.B = [] ∧ ∀ a, Γ.X0 a → ∃ o, (Γ.H0 a = some o ∨ Γ.pin a o) ∧ ∀ xs, o ≠ .tup xs
theorem Rl.nt {s : S} {Lv : Nat → List Addr} {σ : L2.St} {H : Hp} (R : Rl Z Γ s Lv σ H) (hn : Γ.NT) {a : Addr} (h : Γ.X Lv a) (xs : List V) : H a ≠ some (.tup xs) := fun e => by
  rcases h with h | ⟨j, h⟩
  · obtain ⟨o, h1 | h1, h2⟩ := hn.2 a h
    · by_cases ht : ∃ ps, o = .tbl ps
      · obtain ⟨ps, rfl⟩ := ht
        obtain ⟨qs, e2⟩ := R.ktbl a ps h1
        rw [e2] at e; cases e
      · rw [R.keep a o h1 (by rw [hn.1]; simp) fun ps z => ht ⟨ps, z⟩] at e
        exact h2 xs (Option.some.inj e)
    · rw [(R.pn a o h1).2.2.2] at e
      exact h2 xs (Option.some.inj e)
  · have hj' : j < s.length := by
      refine Nat.lt_of_not_le fun q => ?_
      rw [R.out j q] at h; cases h
    have q := R.sl j s[j] (List.getElem?_eq_getElem hj')
    generalize s[j] = y at q
    cases y with
    | no => rw [show Lv j = [] from q] at h; cases h
    | fz d => rw [q.1] at h; cases h
    | ow o =>
      obtain ⟨v, _, r⟩ := q
      exact r.notup h e
/-- what is known besides: what is locked is locked, no tuple is forbidden -/
def GC (Γ : Gm) (Y : Addr → Prop) (H : Hp) : Prop := (∀ a od u, Γ.pin a (.frz od u) → H a = some (.frz od u)) ∧ (Γ.NT → ∀ a, Y a → ∀ xs, H a ≠ some (.tup xs))
/-- all that is forbidden stands -/
def Alv (C : (Addr → Prop) → Hp → Prop) (Y : Addr → Prop) (H : Hp) : Prop := (∀ a, Y a → H a ≠ none) ∧ C Y H
theorem Rl.alv {Γ1 : Gm} {s : S} {Lv : Nat → List Addr} {σ : L2.St} {H : Hp} (R : Rl Z Γ1 s Lv σ H) (h : ∀ a od u, Γ.pin a (.frz od u) → Γ1.pin a (.frz od u)) (hn : Γ.NT → Γ1.NT) : Alv (GC Γ) (Γ1.X Lv) H :=
  ⟨fun a q => R.xs q, fun a od u q => (R.pn a _ (h a od u q)).2.2.2, fun q a h => R.nt (hn q) h⟩
theorem Gm.NT.blk {p : Addr} {acc : List V} (h : Γ.NT) : (Γ.blk p acc).NT := ⟨h.1, fun a ha => by
  rcases ha with ha | ha
  · obtain ⟨o, h1, h2⟩ := h.2 a ha
    exact ⟨o, h1.imp id .inl, h2⟩
  · exact ⟨.lst acc, .inr (.inr ⟨List.mem_singleton.mp ha, rfl⟩), fun xs z => by cases z⟩⟩
theorem Gm.NT.blk' {p : Addr} {acc acc' : List V} (h : (Γ.blk p acc).NT) : (Γ.blk p acc').NT := ⟨h.1, fun a ha => by
  by_cases z : a = p
  · exact ⟨.lst acc', .inr (.inr ⟨z, rfl⟩), fun xs z => by cases z⟩
  · obtain ⟨o, h1, h2⟩ := h.2 a ha
    exact ⟨o, h1.imp id fun h1 => h1.elim .inl fun q => absurd q.1 z, h2⟩⟩
/-- the iterator J yields ds, whatever the heap becomes -/
structure ItR (Z : Zt) (C : (Addr → Prop) → Hp → Prop) (Y : Addr → Prop) (H : Hp) (J : It) (ds : List D) : Prop where
  go : ∀ Y2 H2, Fw Z Y H Y2 H2 → Alv C Y2 H2 → ∀ i, i < ds.length → J.go i H2
  stop : ∀ Y2 H2, Fw Z Y H Y2 H2 → Alv C Y2 H2 → J.stop ds.length H2
  yld : ∀ Y2 H2, Fw Z Y H Y2 H2 → Alv C Y2 H2 → ∀ (i : Nat) d, ds[i]? = some d → ∀ x H3, J.yld i H2 x H3 → Same H2 H3 ∧ Rep Z Y2 H3 d x
def tI (Z : Zt) (Γ : Gm) (fi : S → R (List D)) : TI := fun σ H Rr => ∃ s Lv, Rl Z Γ s Lv σ H ∧ Po Z Γ (fun Y _ H ds J => ItR Z (GC Γ) Y H J ds) (fi s) Lv σ H Rr
theorem pi_imp {X : Cx} {tg e : Expr} {t t' : TI} (h : PI X tg e t) (k : ∀ σ H Q, t' σ H Q → t σ H Q) : PI X tg e t' := ⟨fun pins s σ H Q I q => h.run pins s σ H Q I (k σ H Q q)⟩
/-- the items of a list, a tuple (data that stays) -/
def itemsD : W → Option (List D)
  | .d (.lst ds) => some ds
  | .d (.tup ds) => some ds
  | _ => none
def iItems (f : S → R W) : S → R (List D) := fun s => (f s).bind fun w s1 => ofO s1 (itemsD w)
def isLst : W → Option (List D)
  | .d (.lst ds) => some ds
  | _ => none
def isTup : W → Option (List D)
  | .d (.tup ds) => some ds
  | _ => none
def iLst (f : S → R W) : S → R (List D) := fun s => (f s).bind fun w s1 => ofO s1 (isLst w)
def iTup (f : S → R W) : S → R (List D) := fun s => (f s).bind fun w s1 => ofO s1 (isTup w)
def rngD (lo hi : Int) : List D := (List.range (hi - lo).toNat).map fun (i : Nat) => D.int (lo + i)
def gRng1 : List W → Option (List D)
  | [.d (.int j)] => if -(2 ^ 62) ≤ j ∧ j < 2 ^ 62 then some (rngD 0 j) else none
  | _ => none
def gRng2 : List W → Option (List D)
  | [.d (.int i), .d (.int j)] => if (-(2 ^ 62) ≤ i ∧ i < 2 ^ 62) ∧ -(2 ^ 62) ≤ j ∧ j < 2 ^ 62 then some (rngD i j) else none
  | _ => none
/-- the arguments' data, made into what is walked -/
def iOf (g : List W → Option (List D)) (f : S → R (List W)) : S → R (List D) := fun s => (f s).bind fun ws s1 => ofO s1 (g ws)
def pairsD (xs ys : List D) : List D := (xs.zip ys).map fun p => D.tup [p.1, p.2]
def enumD (xs : List D) : List D := pairsD ((List.range xs.length).map fun (i : Nat) => D.int i) xs
def signsD (z : Str) : List D := z.cps.toList.map fun c => D.str ⟨#[c]⟩
def isStr : W → Option (List D)
  | .d (.str z) => some (signsD z)
  | _ => none
def iStrD (f : S → R W) : S → R (List D) := fun s => (f s).bind fun w s1 => ofO s1 (isStr w)

theorem fw_lst {Y Y2 : Addr → Prop} {H H2 : Hp} {a : Addr} {vs : List V} (F : Fw Z Y H Y2 H2) (n : ¬ Y a) (h : H a = some (.lst vs)) : H2 a = some (.lst vs) := F.keep a _ h n fun ps z => by cases z
theorem fw_tup {Y Y2 : Addr → Prop} {H H2 : Hp} {a : Addr} {vs : List V} (F : Fw Z Y H Y2 H2) (h : TupR Z.K Y H a vs) : TupR Z.K Y2 H2 a vs := by
  rcases h with ⟨n, h⟩ | h
  · exact .inl (at_keep F n h fun ps z => by cases z).symm
  · exact .inr h
theorem itr_list {C : (Addr → Prop) → Hp → Prop} {Y : Addr → Prop} {H : Hp} {a : Addr} {vs : List V} {ds : List D} (n : ¬ Y a) (h : H a = some (.lst vs)) (r : RepL Z Y H ds vs) : ItR Z C Y H (Itl Z.K a) ds := by
  refine ⟨fun Y2 H2 F _ i hi => ?_, fun Y2 H2 F _ => ?_, fun Y2 H2 F _ i d hd x H3 y => ?_⟩
  · have e := r.length
    exact ⟨vs, vs[i]'(by omega), .of (fw_lst F n h), by simp [show i < vs.length by omega]⟩
  · exact ⟨vs, .of (fw_lst F n h), by rw [r.length]; exact Nat.le_refl _⟩
  · obtain ⟨rfl, y⟩ := y
    obtain ⟨v, e, rv⟩ := (r.mono F).get hd
    rw [y vs (.of (fw_lst F n h))] at e
    cases e
    exact ⟨Same.refl _, rv⟩
theorem itr_tup {C : (Addr → Prop) → Hp → Prop} {Y : Addr → Prop} {H : Hp} {a : Addr} {vs : List V} {ds : List D} (h : TupR Z.K Y H a vs) (r : RepL Z Y H ds vs) : ItR Z C Y H (Itt Z.K a) ds := by
  refine ⟨fun Y2 H2 F _ i hi => ?_, fun Y2 H2 F _ => ?_, fun Y2 H2 F _ i d hd x H3 y => ?_⟩
  · have e := r.length
    exact ⟨vs, vs[i]'(by omega), (fw_tup F h).sq, by simp [show i < vs.length by omega]⟩
  · exact ⟨vs, (fw_tup F h).sq, by rw [r.length]; exact Nat.le_refl _⟩
  · obtain ⟨rfl, y⟩ := y
    obtain ⟨v, e, rv⟩ := (r.mono F).get hd
    rw [y vs (fw_tup F h).sq] at e
    cases e
    exact ⟨Same.refl _, rv⟩
theorem itr_rng {C : (Addr → Prop) → Hp → Prop} {Y : Addr → Prop} {H : Hp} {lo hi : Int} : ItR Z C Y H (Itr lo (hi - lo).toNat) (rngD lo hi) := by
  have hl : (rngD lo hi).length = (hi - lo).toNat := by unfold rngD; simp
  refine ⟨fun Y2 H2 F _ i h => by rw [hl] at h; exact h, fun Y2 H2 F _ => by rw [hl]; exact Nat.le_refl _, fun Y2 H2 F _ i d hd x H3 y => ?_⟩
  obtain ⟨rfl, rfl⟩ := y
  refine ⟨Same.refl _, ?_⟩
  unfold rngD at hd
  rw [List.getElem?_map] at hd
  cases e : (List.range (hi - lo).toNat)[i]? with
  | none => rw [e] at hd; cases hd
  | some j =>
    rw [e] at hd
    obtain ⟨h1, h2⟩ := List.getElem?_eq_some_iff.mp e
    rw [List.getElem_range] at h2
    subst h2
    cases hd
    exact rep_int
theorem itr_str {C : (Addr → Prop) → Hp → Prop} {Y : Addr → Prop} {H : Hp} {z : Str} : ItR Z C Y H (Its z) (signsD z) := by
  have hl : (signsD z).length = z.cps.size := by unfold signsD; simp
  refine ⟨fun Y2 H2 F _ i h => (walk_str (z := z)).goes i H2 (by rw [← hl]; exact h) trivial, fun Y2 H2 F _ => by rw [hl]; exact (walk_str (z := z)).stops H2 trivial, fun Y2 H2 F _ i d hd x H3 y => ?_⟩
  have hi : i < z.cps.size := by
    obtain ⟨h, _⟩ := List.getElem?_eq_some_iff.mp hd
    rw [hl] at h; exact h
  obtain ⟨rfl, c, e, rfl⟩ := (walk_str (z := z)).yields i H2 x H3 hi trivial y
  refine ⟨Same.refl _, ?_⟩
  unfold signsD at hd
  rw [List.getElem?_map, Array.getElem?_toList, e] at hd
  cases hd
  exact rep_str
end
section
variable {X : Cx} {Z : Zt} {Γ : Gm} {tg e e2 : Expr} {es : List Expr} {fa : S → R W} {fs : S → R (List W)} {pos : Pos}
theorem di_lst (hK : X.K = Z.K) (ha : PE X e (tE Z Γ fa)) : PI X tg e (tI Z Γ (iLst fa)) := by
  refine pi_imp (pi_list ha) fun σ H Q h => ?_
  obtain ⟨s, Lv, R0, po⟩ := h
  refine ⟨s, Lv, R0, po.bind.mono fun v H1 ⟨w, s1, Lv1, _, R1, F1, r1, po1⟩ => ?_⟩
  cases w with
  | p i => exact po1.elim
  | d x =>
    cases x with
    | lst ds =>
      have r1 : Rep Z (Γ.X Lv1) H1 (.lst ds) v := r1
      simp only [Rep] at r1
      obtain ⟨a, vs, rfl, n, ha, r⟩ := r1
      refine ⟨a, rfl, ⟨vs, .of ha⟩, ?_⟩
      rw [hK]
      exact po1.ok R1 (itr_list n ha r)
    | _ => exact po1.elim
theorem di_tup (hK : X.K = Z.K) (ha : PE X e (tE Z Γ fa)) : PI X tg e (tI Z Γ (PD.iTup fa)) := by
  refine pi_imp (pi_tup ha) fun σ H Q h => ?_
  obtain ⟨s, Lv, R0, po⟩ := h
  refine ⟨s, Lv, R0, po.bind.mono fun v H1 ⟨w, s1, Lv1, _, R1, F1, r1, po1⟩ => ?_⟩
  cases w with
  | p i => exact po1.elim
  | d x =>
    cases x with
    | tup ds =>
      have r1 : Rep Z (Γ.X Lv1) H1 (.tup ds) v := r1
      simp only [Rep] at r1
      obtain ⟨a, vs, rfl, ha, r⟩ := r1
      refine ⟨a, rfl, ⟨vs, by rw [hK]; exact ha.sq⟩, ?_⟩
      rw [hK]
      exact po1.ok R1 (itr_tup ha r)
    | _ => exact po1.elim
theorem di_str (ha : PE X e (tE Z Γ fa)) : PI X tg e (tI Z Γ (iStrD fa)) := by
  refine pi_imp (pi_str ha) fun σ H Q h => ?_
  obtain ⟨s, Lv, R0, po⟩ := h
  refine ⟨s, Lv, R0, po.bind.mono fun v H1 ⟨w, s1, Lv1, _, R1, F1, r1, po1⟩ => ?_⟩
  cases w with
  | p i => exact po1.elim
  | d x =>
    cases x with
    | str z =>
      have r1 : Rep Z (Γ.X Lv1) H1 (.str z) v := r1
      simp only [Rep] at r1
      exact ⟨z, r1, po1.ok R1 itr_str⟩
    | _ => exact po1.elim
theorem wrep1 {Y : Addr → Prop} {σ : L2.St} {H : Hp} {w : W} {vs : List V} (h : WRepL Z Y σ H [w] vs) : ∃ v, vs = [v] ∧ WRep Z Y σ H w v := by
  obtain ⟨v, vr, rfl, r, h⟩ := h
  have h : vr = [] := h
  exact ⟨v, by rw [h], r⟩
theorem wrep2 {Y : Addr → Prop} {σ : L2.St} {H : Hp} {w u : W} {vs : List V} (h : WRepL Z Y σ H [w, u] vs) : ∃ v v', vs = [v, v'] ∧ WRep Z Y σ H w v ∧ WRep Z Y σ H u v' := by
  obtain ⟨v, vr, rfl, r, h⟩ := h
  obtain ⟨v', rfl, r'⟩ := wrep1 h
  exact ⟨v, v', rfl, r, r'⟩
theorem di_rng1 {p : Pos} (hg : Gl X "range") (hm : X.mg "range" = none) (ha : PA X [e] (tA Z Γ fs)) (he : starEach [e] X.env = [(false, eval e X.env)] := by rfl) : PI X tg (.Call (.Name "range" p) [e] [] pos) (tI Z Γ (iOf gRng1 fs)) := by
  refine pi_imp (pi_range1 hg hm ha (hs := he)) fun σ H Q h => ?_
  obtain ⟨s, Lv, R0, po⟩ := h
  refine ⟨s, Lv, R0, po.bind.mono fun vs H1 ⟨ws, s1, Lv1, e0, R1, F1, r1, po1⟩ => ?_⟩
  clear e0
  unfold gRng1 at po1
  split at po1
  · rename_i j
    by_cases hj : -(2 ^ 62) ≤ j ∧ j < 2 ^ 62
    · rw [if_pos hj] at po1
      obtain ⟨v, rfl, r2⟩ := wrep1 r1
      have r2 : Rep Z (Γ.X Lv1) H1 (.int j) v := r2
      simp only [Rep] at r2
      subst r2
      have q := po1.ok R1 (v := Itr 0 (j - 0).toNat) itr_rng
      rw [Int.sub_zero] at q
      exact ⟨j, rfl, hj.1, hj.2, q⟩
    · rw [if_neg hj] at po1; exact po1.elim
  · exact po1.elim
theorem di_rng2 {p : Pos} (hg : Gl X "range") (hm : X.mg "range" = none) (ha : PA X [e, e2] (tA Z Γ fs)) (he : starEach [e, e2] X.env = [(false, eval e X.env), (false, eval e2 X.env)] := by rfl) (he2 : starEach [e2] X.env = [(false, eval e2 X.env)] := by rfl) : PI X tg (.Call (.Name "range" p) [e, e2] [] pos) (tI Z Γ (iOf gRng2 fs)) := by
  refine pi_imp (pi_range2 hg hm ha he he2) fun σ H Q h => ?_
  obtain ⟨s, Lv, R0, po⟩ := h
  refine ⟨s, Lv, R0, po.bind.mono fun vs H1 ⟨ws, s1, Lv1, e0, R1, F1, r1, po1⟩ => ?_⟩
  clear e0
  unfold gRng2 at po1
  split at po1
  · rename_i i j
    by_cases hj : (-(2 ^ 62) ≤ i ∧ i < 2 ^ 62) ∧ -(2 ^ 62) ≤ j ∧ j < 2 ^ 62
    · rw [if_pos hj] at po1
      obtain ⟨v, v', rfl, r2, r3⟩ := wrep2 r1
      have r2 : Rep Z (Γ.X Lv1) H1 (.int i) v := r2
      have r3 : Rep Z (Γ.X Lv1) H1 (.int j) v' := r3
      simp only [Rep] at r2 r3
      subst r2 r3
      exact ⟨i, j, rfl, ⟨hj.1.1, hj.1.2, hj.2.1, hj.2.2⟩, po1.ok R1 itr_rng⟩
    · rw [if_neg hj] at po1; exact po1.elim
  · exact po1.elim

/-! ### targets -/
def tG (Z : Zt) (Γ : Gm) (ks : List Nat) (t : D → S → R Unit) : TG := fun v σ H Q => ∃ s Lv d, Rl Z Γ s Lv σ H ∧ Rep Z (Γ.X Lv) H d v ∧ match t d s with
  | .ok _ s' => ∀ σ' H' Lv', Rl Z Γ s' Lv' σ' H' → Fw Z (Γ.X Lv) H (Γ.X Lv') H' → (σ'.length = σ.length ∧ ∀ j : Nat, j ∉ ks → σ'[j]? = σ[j]?) → Q σ' H'
  | _ => False
def tGs (Z : Zt) (Γ : Gm) (ks : List Nat) (t : List D → S → R Unit) : TGs := fun vs σ H Q => ∃ s Lv ds, Rl Z Γ s Lv σ H ∧ RepL Z (Γ.X Lv) H ds vs ∧ match t ds s with
  | .ok _ s' => ∀ σ' H' Lv', Rl Z Γ s' Lv' σ' H' → Fw Z (Γ.X Lv) H (Γ.X Lv') H' → (σ'.length = σ.length ∧ ∀ j : Nat, j ∉ ks → σ'[j]? = σ[j]?) → Q σ' H'
  | _ => False
def gN (i : Nat) : D → S → R Unit := fun d s => if i < s.length then .ok () (s.set i (.fz d)) else .st
def gsNil : List D → S → R Unit
  | [], s => .ok () s
  | _, _ => .st
def gsCons (t : D → S → R Unit) (u : List D → S → R Unit) : List D → S → R Unit
  | d :: ds, s => (t d s).bind fun _ s1 => u ds s1
  | _, _ => .st
def gT (n : Nat) (t : List D → S → R Unit) : D → S → R Unit
  | .tup ds, s => if ds.length = n then t ds s else .st
  | _, _ => .st
theorem pg_imp {t t' : TG} (h : PG X tg t) (k : ∀ v σ H Q, t' v σ H Q → t v σ H Q) : PG X tg t' := ⟨fun pins s σ H v u Q I r q => h.run pins s σ H v u Q I r (k v σ H Q q)⟩
theorem pgs_imp {t t' : TGs} (h : PGs X es t) (k : ∀ v σ H Q, t' v σ H Q → t v σ H Q) : PGs X es t' := ⟨fun pins s σ H v u Q I r q => h.run pins s σ H v u Q I r (k v σ H Q q)⟩
/-- slot i holds data -/
theorem Rl.setD {s : S} {Lv : Nat → List Addr} {σ : L2.St} {H : Hp} {i : Nat} {d : D} {v : V} (R0 : Rl Z Γ s Lv σ H) (hi : i < s.length) (hb : Γ.bor i = none) (r : Rep Z (Γ.X Lv) H d v) :
    Rl Z Γ (s.set i (.fz d)) (setL Lv i []) (σ.set i (some v)) H ∧ Fw Z (Γ.X Lv) H (Γ.X (setL Lv i [])) H := by
  have F : Fw Z (Γ.X Lv) H (Γ.X (setL Lv i [])) H := Fw.refl.less fun a h => by
    rcases h with h | ⟨j, h⟩
    · exact .inl h
    · by_cases hj : j = i
      · rw [hj, setL_same] at h; cases h
      · rw [setL_ne hj] at h; exact .inr ⟨j, h⟩
  refine R0.put0 hi (by simp) (fun j hj => by rw [List.getElem?_set_ne (Ne.symm hj)]) (fun j u hu => ?_) List.nodup_nil (fun a h => by cases h) ⟨rfl, v, ?_, r.mono F⟩
  · have hj : i ≠ j := fun z => by rw [← z, hb] at hu; cases hu
    rw [List.getElem?_set_ne hj]; exact R0.bor j u hu
  · rw [List.getElem?_set_self (by rw [← R0.len]; exact hi)]
theorem dg_n {i : Nat} {x : Str} (hN : X.N.Nodup) (hi : X.N[i]? = some x := by rfl) (hx : Loc X.env.scope x := by first | exact Or.inl rfl | exact Or.inr rfl) (hb : Γ.bor i = none := by rfl)
    (hf : X.fn x = true ∨ X.env.scope.names.lookup x = some .local := by first | exact .inl rfl | exact .inr rfl | assumption) : PG X (.Name x pos) (tG Z Γ [i] (gN i)) := by
  refine pg_imp (pg_name hN hi hx hf) fun v σ H Q h => ?_
  obtain ⟨s, Lv, d, R0, r, po⟩ := h
  unfold gN at po
  by_cases hi : i < s.length
  · rw [if_pos hi] at po
    obtain ⟨R1, F1⟩ := R0.setD hi hb r
    exact po _ _ _ R1 F1 ⟨by simp, fun j hj => by rw [List.getElem?_set_ne (fun z => hj (by rw [z]; simp))]⟩
  · rw [if_neg hi] at po; exact po.elim
theorem dgs_nil : PGs X [] (tGs Z Γ [] gsNil) := by
  refine pgs_imp pgs_nil fun vs σ H Q h => ?_
  obtain ⟨s, Lv, ds, R0, r, po⟩ := h
  cases ds with
  | nil => simp only [RepL] at r; exact ⟨r, po σ H Lv R0 Fw.refl ⟨rfl, fun _ _ => rfl⟩⟩
  | cons d ds => exact po.elim
theorem dgs_cons {t : D → S → R Unit} {u : List D → S → R Unit} {ks ks' : List Nat} (h1 : PG X e (tG Z Γ ks t)) (h2 : PGs X es (tGs Z Γ ks' u)) (hs : (assignEach (e :: es) X.env).map (·.2) = assign e X.env :: (assignEach es X.env).map (·.2) := by rfl) : PGs X (e :: es) (tGs Z Γ (ks ++ ks') (gsCons t u)) := by
  refine pgs_imp (pgs_cons h1 h2 hs) fun vs σ H Q h => ?_
  obtain ⟨s, Lv, ds, R0, r, po⟩ := h
  cases ds with
  | nil => exact po.elim
  | cons d ds =>
    simp only [RepL] at r
    obtain ⟨v, vr, rfl, r1, r2⟩ := r
    refine ⟨v, vr, rfl, s, Lv, d, R0, r1, ?_⟩
    simp only [gsCons] at po
    cases e1 : t d s with
    | st => rw [e1] at po; exact po.elim
    | er c ns ds s1 => rw [e1] at po; exact po.elim
    | ok a s1 =>
      rw [e1] at po
      simp only [PD.R.bind_ok] at po
      intro σ1 H1 Lv1 R1 F1 l1
      refine ⟨s1, Lv1, ds, R1, r2.mono F1, ?_⟩
      cases e2 : u ds s1 with
      | st => rw [e2] at po; exact po.elim
      | er c ns ds s1 => rw [e2] at po; exact po.elim
      | ok b s2 =>
        rw [e2] at po
        exact fun σ2 H2 Lv2 R2 F2 l2 => po σ2 H2 Lv2 R2 (F1.trans F2) ⟨l2.1.trans l1.1, fun j hj => (l2.2 j fun z => hj (List.mem_append_right _ z)).trans (l1.2 j fun z => hj (List.mem_append_left _ z))⟩
theorem dg_t {k n : Nat} {u : List D → S → R Unit} {ks : List Nat} (hK : X.K = Z.K) (hc : X.calm = true) (h : PGs X es (tGs Z Γ ks u)) (hn : (assignEach es X.env).length = n := by rfl) (hst : (assignEach es X.env).findIdx? (·.1) = none := by rfl) : PG X (.Tuple es k pos) (tG Z Γ ks (gT n u)) := by
  refine pg_imp (pg_tup hc h hn hst) fun v σ H Q h => ?_
  obtain ⟨s, Lv, d, R0, r, po⟩ := h
  cases d with
  | tup ds =>
    simp only [Rep] at r
    obtain ⟨a, vs, rfl, ha, r⟩ := r
    simp only [gT] at po
    by_cases hl : ds.length = n
    · rw [if_pos hl] at po
      exact ⟨a, vs, rfl, by rw [hK]; exact ha.sq, by rw [← r.length]; exact hl, s, Lv, ds, R0, r, po⟩
    · rw [if_neg hl] at po; exact po.elim
  | _ => exact po.elim
end
end PD

set_option linter.all false
set_option maxRecDepth 100000
/-! PD8: statements. -/
namespace PD
open PySem PySem.Spec PyProof.Rows L2

/-- what a statement gives -/
inductive SR where
  | nx (s : S) | rt (r : Rv) (s : S) | bk (s : S) | ct (s : S) | er (c : Str) (ns : List Str) (ds : List D) (s : S) | st
def Ps (Z : Zt) (Γ : Gm) (r : SR) (Lv : Nat → List Addr) (H : Hp) (Dn : Ends) : Prop := match r with
  | .nx s' => ∀ σ' H' Lv', Rl Z Γ s' Lv' σ' H' → Fw Z (Γ.X Lv) H (Γ.X Lv') H' → Dn.nx σ' H'
  | .bk s' => ∀ σ' H' Lv', Rl Z Γ s' Lv' σ' H' → Fw Z (Γ.X Lv) H (Γ.X Lv') H' → Dn.bk σ' H'
  | .ct s' => ∀ σ' H' Lv', Rl Z Γ s' Lv' σ' H' → Fw Z (Γ.X Lv) H (Γ.X Lv') H' → Dn.ct σ' H'
  | .rt r s' => ∀ v σ' H' Lv' L, Rl Z (Γ.plus L) s' Lv' σ' H' → Fw Z (Γ.X Lv) H ((Γ.plus L).X Lv') H' → L.Nodup → (∀ b ∈ L, ¬ Γ.X Lv' b ∧ Γ.H0 b = none) → RvRep Z ((Γ.plus L).X Lv') H' r v L → Dn.rt v H'
  | .er c ns ds s' => ∀ cls d σ' H' Lv', Rl Z Γ s' Lv' σ' H' → Fw Z (Γ.X Lv) H (Γ.X Lv') H' → ExR Z (Γ.X Lv') H' c ns ds cls d → Γ.E cls d σ' H'
  | .st => False
def tS (Z : Zt) (Γ : Gm) (f : S → SR) : TS := fun Dn σ H => ∃ s Lv, Rl Z Γ s Lv σ H ∧ Ps Z Γ (f s) Lv H Dn
def sBind {α : Type} (x : R α) (g : α → S → SR) : SR := match x with
  | .ok a s => g a s
  | .er c ns ds s => .er c ns ds s
  | .st => .st
@[simp] theorem sBind_ok {α : Type} (a : α) (s : S) (g : α → S → SR) : sBind (.ok a s) g = g a s := rfl
@[simp] theorem sBind_er {α : Type} (c : Str) (ns : List Str) (ds : List D) (s : S) (g : α → S → SR) : sBind (.er c ns ds s) g = .er c ns ds s := rfl
@[simp] theorem sBind_st {α : Type} (g : α → S → SR) : sBind .st g = .st := rfl

section
variable {Z : Zt} {Γ : Gm} {Lv Lv1 : Nat → List Addr} {σ : L2.St} {H H1 : Hp} {Dn : Ends} {α β : Type}
theorem Ps.fw {r : SR} (h : Ps Z Γ r Lv H Dn) (F : Fw Z (Γ.X Lv) H (Γ.X Lv1) H1) : Ps Z Γ r Lv1 H1 Dn := by
  cases r with
  | nx s => exact fun σ' H' Lv' R' F' => h σ' H' Lv' R' (F.trans F')
  | bk s => exact fun σ' H' Lv' R' F' => h σ' H' Lv' R' (F.trans F')
  | ct s => exact fun σ' H' Lv' R' F' => h σ' H' Lv' R' (F.trans F')
  | rt r s => exact fun v σ' H' Lv' L R' F' => h v σ' H' Lv' L R' (F.trans F')
  | er c ns ds s => exact fun cls d σ' H' Lv' R' F' => h cls d σ' H' Lv' R' (F.trans F')
  | st => exact h
theorem Ps.bind {ra : (Addr → Prop) → L2.St → Hp → α → β → Prop} {x : R α} {g : α → S → SR} (h : Ps Z Γ (sBind x g) Lv H Dn) :
    Po Z Γ ra x Lv σ H fun v H1 => ∃ a s1 Lv1, x = .ok a s1 ∧ Rl Z Γ s1 Lv1 σ H1 ∧ Fw Z (Γ.X Lv) H (Γ.X Lv1) H1 ∧ ra (Γ.X Lv1) σ H1 a v ∧ Ps Z Γ (g a s1) Lv1 H1 Dn := by
  cases x with
  | ok a s1 => exact fun v H1 Lv1 R1 F1 r => ⟨a, s1, Lv1, rfl, R1, F1, r, h.fw F1⟩
  | er c ns ds s1 => exact fun cls d H' Lv' R' F' x => h cls d σ H' Lv' R' F' x
  | st => exact h
theorem Ps.nx {s : S} {σ' : L2.St} {H' : Hp} {Lv' : Nat → List Addr} (h : Ps Z Γ (.nx s) Lv H Dn) (R' : Rl Z Γ s Lv' σ' H') (F : Fw Z (Γ.X Lv) H (Γ.X Lv') H') : Dn.nx σ' H' := h σ' H' Lv' R' F
end

/-- behind a store (stores raise nothing) -/
def tgo (x : R Unit) (g : S → SR) : SR := match x with
  | .ok _ s => g s
  | _ => .st
@[simp] theorem tgo_ok (a : Unit) (s : S) (g : S → SR) : tgo (.ok a s) g = g s := rfl
def sNil : S → SR := fun s => .nx s
def sSeq (f g : S → SR) : S → SR := fun s => match f s with
  | .nx s1 => g s1
  | r => r
def sAsg (t : D → S → R Unit) (f : S → R W) : S → SR := fun s => sBind (f s) fun w s1 => match fzW w with
  | some d => tgo (t d s1) fun s2 => .nx s2
  | none => .st
def sDrop (f : S → R W) : S → SR := fun s => sBind (f s) fun _ s1 => .nx s1
def sRet (f : S → R W) : S → SR := fun s => sBind (f s) fun w s1 => match fzW w with
  | some d => .rt (.d d) s1
  | none => .st
def sRetN : S → SR := fun s => .rt (.d .non) s
def sIf (c : S → R Bool) (f g : S → SR) : S → SR := fun s => sBind (c s) fun b s1 => if b = true then f s1 else g s1
def forD (t : D → S → R Unit) (body : S → SR) : List D → S → SR
  | [], s => .nx s
  | d :: ds, s => tgo (t d s) fun s1 => match body s1 with
    | .nx s2 => forD t body ds s2
    | .ct s2 => forD t body ds s2
    | .bk s2 => .nx s2
    | r => r
def sFor (t : D → S → R Unit) (fi : S → R (List D)) (body : S → SR) : S → SR := fun s => sBind (fi s) fun ds s1 => forD t body ds s1
def whileN (c : S → R Bool) (b : S → SR) : Nat → S → Option SR
  | 0, _ => none
  | n + 1, s => match c s with
    | .ok true s1 => match b s1 with
      | .nx s2 => whileN c b n s2
      | .ct s2 => whileN c b n s2
      | .bk s2 => some (.nx s2)
      | r => some r
    | .ok false s1 => some (.nx s1)
    | .er k ns ds s1 => some (.er k ns ds s1)
    | .st => some .st
open Classical in
noncomputable def sWhile (c : S → R Bool) (b : S → SR) : S → SR := fun s => if h : ∃ r n, whileN c b n s = some r then h.choose else .st
theorem whileN_mono {c : S → R Bool} {b : S → SR} : ∀ {n m : Nat} {s : S} {r : SR}, whileN c b n s = some r → n ≤ m → whileN c b m s = some r
  | 0, _, _, _, h, _ => by cases h
  | n + 1, 0, _, _, _, hm => by omega
  | n + 1, m + 1, s, r, h, hm => by
    simp only [whileN] at h ⊢
    split
    · rename_i s1 e
      rw [e] at h
      simp only at h
      split
      · rename_i s2 e2
        rw [e2] at h
        exact whileN_mono h (by omega)
      · rename_i s2 e2
        rw [e2] at h
        exact whileN_mono h (by omega)
      · rename_i s2 e2
        rw [e2] at h
        exact h
      · rename_i r' h1 h2 h3
        split at h
        · rename_i e4; exact absurd e4 (h1 _)
        · rename_i e4; exact absurd e4 (h2 _)
        · rename_i e4; exact absurd e4 (h3 _)
        · exact h
    · rename_i s1 e; rw [e] at h; exact h
    · rename_i e; rw [e] at h; exact h
    · rename_i e; rw [e] at h; exact h
theorem sWhile_eq {c : S → R Bool} {b : S → SR} {s : S} {r : SR} {n : Nat} (h : whileN c b n s = some r) : sWhile c b s = r := by
  unfold sWhile
  have q : ∃ r n, whileN c b n s = some r := ⟨r, n, h⟩
  rw [dif_pos q]
  obtain ⟨m, e⟩ := q.choose_spec
  have h1 := whileN_mono h (Nat.le_max_left n m)
  have h2 := whileN_mono e (Nat.le_max_right n m)
  exact Option.some.inj (h2.symm.trans h1)

section
variable {X : Cx} {Z : Zt} {Γ : Gm} {tg e : Expr} {st : Stmt} {rest body : List Stmt} {fa : S → R W} {ga : S → R Bool} {f g : S → SR} {t : D → S → R Unit} {ks : List Nat} {fi : S → R (List D)} {pos : Pos}
theorem dss_nil : PSs X [] (tS Z Γ sNil) := by
  refine pss_imp pss_nil fun Dn σ H h => ?_
  obtain ⟨s, Lv, R0, po⟩ := h
  exact po.nx R0 Fw.refl
theorem seq_D {Dn : Ends} {σ : L2.St} {H : Hp} (h : tS Z Γ (sSeq f g) Dn σ H) : tSeq (tS Z Γ f) (tS Z Γ g) Dn σ H := by
  obtain ⟨s, Lv, R0, po⟩ := h
  refine ⟨s, Lv, R0, ?_⟩
  unfold sSeq at po
  cases e : f s with
  | nx s1 =>
    rw [e] at po
    exact fun σ' H' Lv' R' F' => ⟨s1, Lv', R', po.fw F'⟩
  | bk s1 => rw [e] at po; exact po
  | ct s1 => rw [e] at po; exact po
  | rt r s1 => rw [e] at po; exact po
  | er c ns ds s1 => rw [e] at po; exact po
  | st => rw [e] at po; exact po
theorem dss_cons (h1 : PS X st (tS Z Γ f)) (h2 : PSs X rest (tS Z Γ g)) : PSs X (st :: rest) (tS Z Γ (sSeq f g)) := pss_imp (pss_cons h1 h2) fun _ _ _ h => seq_D h
theorem dss_one (h1 : PS X st (tS Z Γ f)) : PSs X [st] (tS Z Γ f) := pss_one h1
theorem asg_D {Dn : Ends} {σ : L2.St} {H : Hp} (h : tS Z Γ (sAsg t fa) Dn σ H) : tAsg (tE Z Γ fa) (tG Z Γ ks t) Dn σ H := by
  obtain ⟨s, Lv, R0, po⟩ := h
  refine ⟨s, Lv, R0, po.bind.mono fun v H1 ⟨w, s1, Lv1, _, R1, F1, r1, po1⟩ => ?_⟩
  cases e1 : fzW w with
  | none => rw [e1] at po1; exact po1.elim
  | some d =>
    rw [e1] at po1
    simp only at po1
    refine ⟨s1, Lv1, d, R1, fz_ok r1 e1, ?_⟩
    cases e2 : t d s1 with
    | st => rw [e2] at po1; exact po1.elim
    | er c ns ds s2 =>
      rw [e2] at po1
      exact po1.elim
    | ok u s2 =>
      rw [e2] at po1
      exact fun σ' H' Lv' R' F' _ => po1.nx R' F'
theorem ds_asg (he : PE X e (tE Z Γ fa)) (hg : PG X tg (tG Z Γ ks t)) (hs : swapsWithSole [tg] e pos.line X.env = pure false := by rfl) (hw : swappedStores [tg] e X.env = pure none := by rfl)
    (h1 : (assignEach [tg] X.env).map (·.2) = [assign tg X.env] := by rfl) : PS X (.Assign [tg] e pos) (tS Z Γ (sAsg t fa)) := ps_imp (ps_asg he hg hs hw h1) fun _ _ _ h => asg_D h
theorem ds_expr (he : PE X e (tE Z Γ fa)) (hs : swapsWith e none pos.line X.env = pure false := by rfl) : PS X (.Expr e pos) (tS Z Γ (sDrop fa)) := by
  refine ps_imp (ps_expr he hs) fun Dn σ H h => ?_
  obtain ⟨s, Lv, R0, po⟩ := h
  exact ⟨s, Lv, R0, po.bind.mono fun v H1 ⟨w, s1, Lv1, _, R1, F1, r1, po1⟩ => po1.nx R1 Fw.refl⟩
theorem ds_ret (he : PE X e (tE Z Γ fa)) : PS X (.Return (some e) pos) (tS Z Γ (sRet fa)) := by
  refine ps_imp (ps_ret he) fun Dn σ H h => ?_
  obtain ⟨s, Lv, R0, po⟩ := h
  refine ⟨s, Lv, R0, po.bind.mono fun v H1 ⟨w, s1, Lv1, _, R1, F1, r1, po1⟩ => ?_⟩
  cases e1 : fzW w with
  | none => rw [e1] at po1; exact po1.elim
  | some d =>
    rw [e1] at po1
    have hX : Γ.plus [] = Γ := by unfold Gm.plus; simp
    exact po1 v σ H1 Lv1 [] (by rw [hX]; exact R1) (by rw [hX]; exact Fw.refl) List.nodup_nil (fun b hb => by cases hb) ⟨rfl, by rw [hX]; exact fz_ok r1 e1⟩
theorem ds_retN : PS X (.Return none pos) (tS Z Γ sRetN) := by
  refine ps_imp ps_retN fun Dn σ H h => ?_
  obtain ⟨s, Lv, R0, po⟩ := h
  have hX : Γ.plus [] = Γ := by unfold Gm.plus; simp
  exact po .non σ H Lv [] (by rw [hX]; exact R0) (by rw [hX]; exact Fw.refl) List.nodup_nil (fun b hb => by cases hb) ⟨rfl, rep_non⟩
theorem ds_pass : PS X (.Pass pos) (tS Z Γ sNil) := ps_imp ps_pass fun Dn σ H ⟨s, Lv, R0, po⟩ => po.nx R0 Fw.refl
theorem ds_break : PS X (.Break pos) (tS Z Γ fun s => .bk s) := ps_imp ps_break fun Dn σ H ⟨s, Lv, R0, po⟩ => po σ H Lv R0 Fw.refl
theorem ds_cont : PS X (.Continue pos) (tS Z Γ fun s => .ct s) := ps_imp ps_continue fun Dn σ H ⟨s, Lv, R0, po⟩ => po σ H Lv R0 Fw.refl
theorem ds_if {c : Expr} {a b : List Stmt} (hc : PT X c (tT Z Γ ga)) (ha : PSs X a (tS Z Γ f)) (hb : PSs X b (tS Z Γ g)) : PS X (.If c a b pos) (tS Z Γ (sIf ga f g)) := by
  refine ps_imp (ps_if hc ha hb) fun Dn σ H h => ?_
  obtain ⟨s, Lv, R0, po⟩ := h
  refine ⟨s, Lv, R0, po.bind.mono fun v H1 ⟨w, s1, Lv1, _, R1, F1, r1, po1⟩ => ?_⟩
  subst r1
  cases w with
  | true => rw [if_pos rfl] at po1 ⊢; exact ⟨s1, Lv1, R1, po1⟩
  | false => rw [if_neg Bool.false_ne_true] at po1 ⊢; exact ⟨s1, Lv1, R1, po1⟩
theorem ds_for {iter : Expr} (hp : PassesOwn (model X.prog X.w) X.A X.env X.xe) (hc : X.calm = true) (hi : PI X tg iter (tI Z Γ fi)) (hg : PG X tg (tG Z Γ ks t)) (hb : PSs X body (tS Z Γ f)) (hs : ∀ x, foldedSetIterable iter X.env x = pure x := by intro _; rfl) :
    PS X (.For tg iter body [] pos) (tS Z Γ (sFor t fi f)) := by
  refine ps_imp (ps_for hp hc hi hg hb hs) fun Dn σ H h => ?_
  obtain ⟨s, Lv, R0, po⟩ := h
  refine ⟨s, Lv, R0, po.bind.mono fun J H1 ⟨ds, s1, Lv1, _, R1, F1, r1, po1⟩ => ?_⟩
  refine ⟨fun i m σ' H' => m = ds.length - i ∧ i ≤ ds.length ∧ ∃ s' Lv', Rl Z Γ s' Lv' σ' H' ∧ Fw Z (Γ.X Lv1) H1 (Γ.X Lv') H' ∧ Ps Z Γ (forD t f (ds.drop i) s') Lv' H' Dn, ⟨ds.length, by simp, Nat.zero_le _, s1, Lv1, R1, Fw.refl, po1⟩, ?_⟩
  rintro i m σ2 H2 ⟨rfl, hi, s2, Lv2, R2, F2, po2⟩
  by_cases hlt : i < ds.length
  · have hd : ds[i]? = some ds[i] := List.getElem?_eq_getElem hlt
    rw [List.drop_eq_getElem_cons hlt] at po2
    simp only [forD] at po2
    refine .inr ⟨r1.go _ H2 F2 (R2.alv (fun _ _ _ h => h) id) i hlt, _, fun σ' H' p' => ⟨ds.length - (i + 1), by omega, p'⟩, fun x H3 y => ?_⟩
    obtain ⟨sm, rx⟩ := r1.yld _ H2 F2 (R2.alv (fun _ _ _ h => h) id) i _ hd x H3 y
    refine ⟨s2, Lv2, ds[i], R2.same sm, rx, ?_⟩
    cases e2 : t ds[i] s2 with
    | st => rw [e2] at po2; exact po2.elim
    | er c ns ds' s3 => rw [e2] at po2; exact po2.elim
    | ok u s3 =>
      rw [e2] at po2
      simp only [tgo_ok] at po2
      intro σ4 H4 Lv4 R4 F4 _
      have F04 : Fw Z (Γ.X Lv1) H1 (Γ.X Lv4) H4 := F2.trans ((Fw.same sm).trans F4)
      refine ⟨s3, Lv4, R4, ?_⟩
      have po3 := po2.fw ((Fw.same sm).trans F4)
      cases e3 : f s3 with
      | nx s5 =>
        rw [e3] at po3
        exact fun σ5 H5 Lv5 R5 F5 => ⟨rfl, hlt, s5, Lv5, R5, F04.trans F5, Ps.fw po3 F5⟩
      | ct s5 =>
        rw [e3] at po3
        exact fun σ5 H5 Lv5 R5 F5 => ⟨rfl, hlt, s5, Lv5, R5, F04.trans F5, Ps.fw po3 F5⟩
      | bk s5 => rw [e3] at po3; exact po3
      | rt r s5 => rw [e3] at po3; exact po3
      | er c ns ds s5 => rw [e3] at po3; exact po3
      | st => rw [e3] at po3; exact po3
  · have e : i = ds.length := by omega
    subst e
    rw [List.drop_length] at po2
    exact .inl ⟨r1.stop _ H2 F2 (R2.alv (fun _ _ _ h => h) id), po2.nx R2 Fw.refl⟩
theorem ds_while {c : Expr} (hp : PassesOwn (model X.prog X.w) X.A X.env X.xe) (hc : PT X c (tT Z Γ ga)) (hb : PSs X body (tS Z Γ f)) : PS X (.While c body [] pos) (tS Z Γ (sWhile ga f)) := by
  refine ps_imp (ps_while hp hc hb) fun Dn σ H h => ?_
  obtain ⟨s, Lv, R0, po⟩ := h
  have q : ∃ r n, whileN ga f n s = some r ∧ Ps Z Γ r Lv H Dn := by
    unfold sWhile at po
    by_cases h : ∃ r n, whileN ga f n s = some r
    · rw [dif_pos h] at po
      obtain ⟨n, e⟩ := h.choose_spec
      exact ⟨_, n, e, po⟩
    · rw [dif_neg h] at po; exact po.elim
  obtain ⟨r, n, e, po⟩ := q
  refine ⟨fun m σ' H' => ∃ s' Lv', Rl Z Γ s' Lv' σ' H' ∧ whileN ga f m s' = some r ∧ Ps Z Γ r Lv' H' Dn, ⟨n, s, Lv, R0, e, po⟩, ?_⟩
  rintro m σ1 H1 ⟨s1, Lv1, R1, e1, po1⟩
  cases m with
  | zero => cases e1
  | succ m =>
    simp only [whileN] at e1
    refine ⟨s1, Lv1, R1, ?_⟩
    cases e2 : ga s1 with
    | st => rw [e2] at e1; cases e1; exact po1.elim
    | er c ns ds s2 => rw [e2] at e1; cases e1; exact fun cls d H' Lv' R' F' x => po1 cls d _ H' Lv' R' F' x
    | ok b s2 =>
      rw [e2] at e1
      rintro b' H2 Lv2 R2 F2 rfl
      cases b with
      | false =>
        rw [if_neg Bool.false_ne_true]
        simp only at e1
        cases e1
        exact po1.nx R2 F2
      | true =>
        rw [if_pos rfl]
        simp only at e1
        refine ⟨_, fun σ' H' p' => ⟨m, Nat.lt_succ_self m, p'⟩, s2, Lv2, R2, ?_⟩
        have po2 := po1.fw F2
        cases e3 : f s2 with
        | nx s3 => rw [e3] at e1; exact fun σ' H' Lv' R' F' => ⟨s3, Lv', R', e1, po2.fw F'⟩
        | ct s3 => rw [e3] at e1; exact fun σ' H' Lv' R' F' => ⟨s3, Lv', R', e1, po2.fw F'⟩
        | bk s3 => rw [e3] at e1; cases e1; exact po2
        | rt r s3 => rw [e3] at e1; cases e1; exact po2
        | er c ns ds s3 => rw [e3] at e1; cases e1; exact po2
        | st => rw [e3] at e1; cases e1; exact po2
end
end PD

set_option linter.all false
set_option maxRecDepth 100000
/-! PD9: own objects in slots. -/
namespace PD
open PySem PySem.Spec PyProof.Rows L2

section
variable {Z : Zt} {Γ : Gm} {s : S} {Lv : Nat → List Addr} {σ : L2.St} {H : Hp} {i : Nat} {a : Addr}
theorem setL_id {L : List Addr} (h : Lv i = L) : setL Lv i L = Lv := by rw [← h]; exact setL_self
/-- an own object is changed -/
theorem fw_own {o o' : HO} (hL : a ∈ Lv i) (ho : H a = some o) (ht : ∀ ps, o ≠ .tbl ps) (hc : ∀ c q, o ≠ LamX.CodeO c q) : Fw Z (Γ.X Lv) H (Γ.X Lv) (upd H a o') := by
  refine ⟨fun b u h n _ => ?_, fun b ps h => ?_, fun b h => .inl h, fun h q hq => tabs_upd ho ht hc (h q hq)⟩
  · rw [upd_ne fun z => n (by rw [z]; exact .inr ⟨i, hL⟩)]; exact h
  · rw [upd_ne fun z => by rw [z, ho] at h; exact ht ps (Option.some.inj h)]
    exact ⟨ps, h⟩
theorem Rl.ownPut (R0 : Rl Z Γ s Lv σ H) {x : O} {o o' : HO} (hi : i < s.length) (hL : a ∈ Lv i) (ho : H a = some o) (ht : ∀ ps, o ≠ .tbl ps) (hc : ∀ c q, o ≠ LamX.CodeO c q)
    (r : Fw Z (Γ.X Lv) H (Γ.X Lv) (upd H a o') → ∃ v, σ[i]? = some (some v) ∧ OwnRep Z (Γ.X Lv) (upd H a o') x v (Lv i)) : Rl Z Γ (s.set i (.ow x)) Lv σ (upd H a o') ∧ Fw Z (Γ.X Lv) H (Γ.X Lv) (upd H a o') := by
  have F := fw_own (Z := Z) (Γ := Γ) (o' := o') hL ho ht hc
  have q := R0.put (i := i) (x := .ow x) (σ' := σ) (L := Lv i) (H' := upd H a o') hi rfl (fun _ _ => rfl) R0.bor (fun b u h n _ => by rw [upd_ne fun z => n (by rw [z]; exact hL)]; exact h)
    (fun b ps h => F.ktbl b ps h) F.tabs (R0.nd i) (fun b h => .inl h) (fun b h => by
      by_cases z : b = a
      · rw [z, upd_same]; simp
      · rw [upd_ne z]; exact h) (by rw [setL_self]; exact r F)
  rw [setL_self] at q
  exact q
theorem Rl.lstAt (R0 : Rl Z Γ s Lv σ H) {ds : List D} (h : s[i]? = some (.ow (.lst ds))) : ∃ a vs, σ[i]? = some (some (.ref a)) ∧ Lv i = [a] ∧ H a = some (.lst vs) ∧ RepL Z (Γ.X Lv) H ds vs := by
  obtain ⟨v, e, a, vs, rfl, e2, e3, r⟩ := R0.ow h
  exact ⟨a, vs, e, e2, e3, r⟩
theorem Rl.lstPut (R0 : Rl Z Γ s Lv σ H) {ds ds' : List D} {vs vs' : List V} (h : s[i]? = some (.ow (.lst ds))) (e : σ[i]? = some (some (.ref a))) (e2 : Lv i = [a]) (e3 : H a = some (.lst vs)) (r : RepL Z (Γ.X Lv) H ds' vs') :
    Rl Z Γ (s.set i (.ow (.lst ds'))) Lv σ (upd H a (.lst vs')) ∧ Fw Z (Γ.X Lv) H (Γ.X Lv) (upd H a (.lst vs')) :=
  R0.ownPut (List.getElem?_eq_some_iff.mp h).1 (by rw [e2]; simp) e3 (fun ps z => by cases z) lst_ncode fun F => ⟨_, e, a, vs', rfl, e2, upd_same, r.mono F⟩
/-- what an own object in slot i was is data from now on -/
theorem Rl.moved (R0 : Rl Z Γ s Lv σ H) {x : O} (h : s[i]? = some (.ow x)) (hb : i ≠ 0 ∨ Γ.B = []) : ∃ v, σ[i]? = some (some v) ∧ Rl Z Γ (s.set i (.fz x.toD)) (setL Lv i []) σ H ∧ Fw Z (Γ.X Lv) H (Γ.X (setL Lv i [])) H ∧ Rep Z (Γ.X (setL Lv i [])) H x.toD v := by
  obtain ⟨v, e, r⟩ := R0.ow h
  have F : Fw Z (Γ.X Lv) H (Γ.X (setL Lv i [])) H := Fw.refl.less fun a h => by
    rcases h with h | ⟨j, h⟩
    · exact .inl h
    · by_cases hj : j = i
      · rw [hj, setL_same] at h; cases h
      · rw [setL_ne hj] at h; exact .inr ⟨j, h⟩
  have rd : Rep Z (Γ.X (setL Lv i [])) H x.toD v := OwnRep.toD F (fun a ha q => by
    rcases q with q | ⟨j, q⟩
    · rcases R0.lvb i a ha with z | z
      · rcases hb with hb | hb
        · exact hb z.1
        · have := z.2; rw [hb] at this; cases this
      · exact z.2 q
    · by_cases hj : j = i
      · rw [hj, setL_same] at q; cases q
      · rw [setL_ne hj] at q; exact hj (R0.dj j i a q ha)) r
  obtain ⟨R1, F1⟩ := R0.put0 (x := .fz x.toD) (σ' := σ) (L := []) (List.getElem?_eq_some_iff.mp h).1 rfl (fun _ _ => rfl) R0.bor List.nodup_nil (fun a h => by cases h) ⟨rfl, v, e, rd⟩
  exact ⟨v, e, R1, F1, rd⟩
end
/-- a name whose own object is given away -/
def eMv (i : Nat) : S → R W := fun s => match s[i]? with
  | some (.ow o) => .ok (.d o.toD) (s.set i (.fz o.toD))
  | some (.fz d) => .ok (.d d) s
  | _ => .st
/-- x.append(e), x.extend(e), x an own list in slot i -/
def isOwnL (s : S) (i : Nat) : Bool := match s[i]? with
  | some (.ow (.lst _)) => true
  | _ => false
def sApp (i : Nat) (f : S → R W) : S → SR := fun s => if isOwnL s i then sBind (f s) fun w s1 => match fzW w, s1[i]? with
  | some d, some (.ow (.lst ds)) => if ds.length < lim then .nx (s1.set i (.ow (.lst (ds ++ [d])))) else .st
  | _, _ => .st else .st
def sExt (i : Nat) (f : S → R W) : S → SR := fun s => if isOwnL s i then sBind (f s) fun w s1 => match fzW w, s1[i]? with
  | some (.lst es), some (.ow (.lst ds)) => if ds.length + es.length ≤ lim then .nx (s1.set i (.ow (.lst (ds ++ es)))) else .st
  | _, _ => .st else .st
def Rv.sl : Rv → Sl
  | .d x => .fz x
  | .o x => .ow x
/-- x = e, what e gives being owned by x -/
def sOwn (i : Nat) (f : S → R Rv) : S → SR := fun s => sBind (f s) fun r s1 => if i < s1.length then .nx (s1.set i r.sl) else .st
def Rv.toD : Rv → D
  | .d x => x
  | .o x => x.toD
/-- as data -/
def eFz (f : S → R Rv) : S → R W := fun s => (f s).bind fun r s1 => .ok (.d r.toD) s1
/-- a list display, owned by nobody yet -/
def rLst (f : S → R (List W)) : S → R Rv := fun s => (f s).bind fun ws s1 => ofO s1 ((fzL ws).bind fun ds => if ds.length ≤ 1000000 then some (Rv.o (.lst ds)) else none)
def rDicK : S → R Rv := fun s => .ok (.o (.dic [] [])) s
def rDicT : S → R Rv := fun s => .ok (.o (.dit [] [])) s
/-- x[e] = v, x an own list -/
def sSetI (i : Nat) (fi fv : S → R W) : S → SR := fun s => sBind (fv s) fun v s1 => sBind (fi s1) fun k s2 => match fzW v, fzW k, s2[i]? with
  | some d, some (.int n), some (.ow (.lst ds)) => match ixN ds.length n with
    | some j => .nx (s2.set i (.ow (.lst (ds.set j d))))
    | none => .st
  | _, _, _ => .st
theorem isOwnL_ok {s : S} {i : Nat} (h : isOwnL s i = true) : ∃ ds, s[i]? = some (.ow (.lst ds)) := by
  unfold isOwnL at h
  split at h
  · rename_i ds e; exact ⟨ds, e⟩
  · cases h
section
variable {X : Cx} {Z : Zt} {Γ : Gm} {e o : Expr} {es : List Expr} {fa fb : S → R W} {fr : S → R Rv} {fs : S → R (List W)} {pos pos' ap : Pos} {x : Str}
theorem de_mv (i : Nat) (hb : i ≠ 0 ∨ Γ.B = [] := by first | exact .inl (by decide) | exact .inr rfl) (hN : X.N[i]? = some x := by rfl) (hv : Vis X.env.scope x := by first | exact Or.inl rfl | exact Or.inr (Or.inl rfl) | exact Or.inr (Or.inr rfl)) (hd : (x == ("__debug__" : Str)) = false := by decide)
    (hcd : (x == ("__classdict__" : Str)) = false := by decide) : PE X (.Name x pos) (tE Z Γ (eMv i)) := by
  refine pe_imp (pv i hN hv hd hcd) fun σ H Q h => ?_
  obtain ⟨s, Lv, R0, po⟩ := h
  simp only [eMv] at po
  split at po
  · rename_i o e
    obtain ⟨v, e2, R1, F1, r⟩ := R0.moved e hb
    exact ⟨v, e2, po v H _ R1 F1 r⟩
  · rename_i d e
    obtain ⟨v, e2, r⟩ := R0.fz e
    exact ⟨v, e2, po.ok R0 r⟩
  · exact po.elim
theorem lim_lt {n : Nat} (h : n < lim) : n < sizeLine := Nat.lt_of_lt_of_le h (lim_line (Nat.le_refl _))
theorem ds_app (i : Nat) (he : PE X e (tE Z Γ fa)) (hN : X.N[i]? = some x := by rfl) (hv : Vis X.env.scope x := by first | exact Or.inl rfl | exact Or.inr (Or.inl rfl) | exact Or.inr (Or.inr rfl)) (hd : (x == ("__debug__" : Str)) = false := by decide)
    (hcd : (x == ("__classdict__" : Str)) = false := by decide) {p1 cpos : Pos}
    (hbase : attributeBase (.Name x p1) "append" X.env (eval (.Name x p1) X.env) = eval (.Name x p1) X.env := by rfl)
    (hfew : ((backTo cpos (starEach [e] X.env)).all (fun x => !x.1) && (backToKw cpos (keywordEach [] X.env)).all (fun x => x.1.isSome)
      && decide (([e] : List Expr).length + ([] : List Keyword).length + (if ([] : List Keyword).isEmpty then 0 else 1) < 30)) = true := by rfl)
    (hline : (ap.endLine == cpos.line) = true := by rfl) (hs : starEach [e] X.env = (false, eval e X.env) :: starEach [] X.env := by rfl) (hplain : (backTo cpos (starEach [] X.env)).any (·.1) = false := by rfl)
    (hsw : swapsWith (.Call (.Attribute (.Name x p1) "append" ap) [e] [] cpos) none pos.line X.env = pure false := by rfl) :
    PS X (.Expr (.Call (.Attribute (.Name x p1) "append" ap) [e] [] cpos) pos) (tS Z Γ (sApp i fa)) := by
  refine ps_imp (ps_expr (pe_bm PySem.F.plainAttrs_list PySem.F.slot_list_append PySem.F.type_list_append mt_append (pv i hN hv hd hcd) (pa_cons he pa_nil hs) hbase hfew hline hs hplain) hsw) fun Dn σ H h => ?_
  obtain ⟨s, Lv, R0, po⟩ := h
  unfold sApp at po
  by_cases hw : isOwnL s i = true
  · rw [if_pos hw] at po
    obtain ⟨ds0, e0⟩ := isOwnL_ok hw
    obtain ⟨a0, vs0, q1, q2, q3, q4⟩ := R0.lstAt e0
    refine ⟨.ref a0, q1, .inl ⟨rfl, _, SqL.of q3⟩, s, Lv, R0, po.bind.mono fun v H1 ⟨w, s1, Lv1, _, R1, F1, r1, po1⟩ => ?_⟩
    split at po1
    · rename_i d ds e1 e2
      obtain ⟨a, vs, p1, p2, p3, p4⟩ := R1.lstAt e2
      rw [q1] at p1
      cases p1
      by_cases hl : ds.length < lim
      · rw [if_pos hl] at po1
        have r := fz_ok r1 e1
        obtain ⟨R2, F2⟩ := R1.lstPut (ds' := ds ++ [d]) (vs' := vs ++ [v]) e2 q1 p2 p3 (p4.app (RepL.one r))
        exact ⟨a0, vs, v, rfl, rfl, p3, by rw [← p4.length]; exact lim_lt hl, po1.nx R2 F2⟩
      · rw [if_neg hl] at po1; exact po1.elim
    · exact po1.elim
  · rw [if_neg hw] at po; exact po.elim
theorem ds_ext (i : Nat) (he : PE X e (tE Z Γ fa)) (hN : X.N[i]? = some x := by rfl) (hv : Vis X.env.scope x := by first | exact Or.inl rfl | exact Or.inr (Or.inl rfl) | exact Or.inr (Or.inr rfl)) (hd : (x == ("__debug__" : Str)) = false := by decide)
    (hcd : (x == ("__classdict__" : Str)) = false := by decide) {p1 cpos : Pos}
    (hbase : attributeBase (.Name x p1) "extend" X.env (eval (.Name x p1) X.env) = eval (.Name x p1) X.env := by rfl)
    (hfew : ((backTo cpos (starEach [e] X.env)).all (fun x => !x.1) && (backToKw cpos (keywordEach [] X.env)).all (fun x => x.1.isSome)
      && decide (([e] : List Expr).length + ([] : List Keyword).length + (if ([] : List Keyword).isEmpty then 0 else 1) < 30)) = true := by rfl)
    (hline : (ap.endLine == cpos.line) = true := by rfl) (hs : starEach [e] X.env = (false, eval e X.env) :: starEach [] X.env := by rfl) (hplain : (backTo cpos (starEach [] X.env)).any (·.1) = false := by rfl)
    (hsw : swapsWith (.Call (.Attribute (.Name x p1) "extend" ap) [e] [] cpos) none pos.line X.env = pure false := by rfl) :
    PS X (.Expr (.Call (.Attribute (.Name x p1) "extend" ap) [e] [] cpos) pos) (tS Z Γ (sExt i fa)) := by
  refine ps_imp (ps_expr (pe_bm PySem.F.plainAttrs_list PySem.F.slot_list_extend PySem.F.type_list_extend mt_extend (pv i hN hv hd hcd) (pa_cons he pa_nil hs) hbase hfew hline hs hplain) hsw) fun Dn σ H h => ?_
  obtain ⟨s, Lv, R0, po⟩ := h
  unfold sExt at po
  by_cases hw : isOwnL s i = true
  · rw [if_pos hw] at po
    obtain ⟨ds0, e0⟩ := isOwnL_ok hw
    obtain ⟨a0, vs0, q1, q2, q3, q4⟩ := R0.lstAt e0
    refine ⟨.ref a0, q1, .inl ⟨rfl, _, SqL.of q3⟩, s, Lv, R0, po.bind.mono fun v H1 ⟨w, s1, Lv1, _, R1, F1, r1, po1⟩ => ?_⟩
    split at po1
    · rename_i es ds e1 e2
      obtain ⟨a, vs, p1, p2, p3, p4⟩ := R1.lstAt e2
      rw [q1] at p1
      cases p1
      by_cases hl : ds.length + es.length ≤ lim
      · rw [if_pos hl] at po1
        have r := fz_ok r1 e1
        simp only [Rep] at r
        obtain ⟨b, us, rfl, nb, hb, rb⟩ := r
        obtain ⟨R2, F2⟩ := R1.lstPut (ds' := ds ++ es) (vs' := vs ++ us) e2 q1 p2 p3 (p4.app rb)
        exact ⟨a0, b, vs, us, rfl, rfl, p3, hb, by rw [← p4.length, ← rb.length]; exact lim_line hl, po1.nx R2 F2⟩
      · rw [if_neg hl] at po1; exact po1.elim
    · exact po1.elim
  · rw [if_neg hw] at po; exact po.elim
/-- as data -/
theorem de_fz (h : PE X e (tR Z Γ fr)) : PE X e (tE Z Γ (eFz fr)) := by
  refine pe_imp h fun σ H Q h => ?_
  obtain ⟨s, Lv, R0, po⟩ := h
  refine ⟨s, Lv, R0, ?_⟩
  unfold eFz at po
  cases e1 : fr s with
  | st => rw [e1] at po; exact po.elim
  | er c ns ds s1 => rw [e1] at po; exact po
  | ok r s1 =>
    rw [e1] at po
    intro v H' Lv' L R1 F1 nd nw rr
    have F2 : Fw Z ((Γ.plus L).X Lv') H' (Γ.X Lv') H' := Fw.refl.less fun a h => by
      rcases h with h | h
      · exact .inl (.inl h)
      · exact .inr h
    refine po v H' Lv' (R1.less R0.bx R0.pinx) (F1.trans F2) ?_
    cases r with
    | d x => obtain ⟨_, rr⟩ := rr; exact rr.mono F2
    | o x => exact OwnRep.toD F2 (fun a ha q => (nw a ha).1 q) rr
theorem new_own {s : S} {Lv : Nat → List Addr} {σ : L2.St} {H : Hp} {p : Addr} {o : HO} (R0 : Rl Z Γ s Lv σ H) (np : H p = none) :
    Rl Z (Γ.plus [p]) s Lv σ (upd H p o) ∧ Fw Z (Γ.X Lv) H ((Γ.plus [p]).X Lv) (upd H p o) ∧ ([p] : List Addr).Nodup ∧ ∀ b ∈ [p], ¬ Γ.X Lv b ∧ Γ.H0 b = none := by
  refine ⟨R0.kp (E := Γ.E) (L := [p]) (.same (same_new np)) (fun b hb => by rw [List.mem_singleton.mp hb, upd_same]; exact ⟨np, by simp⟩), ⟨fun a o h _ _ => same_new np a o h, fun a ps h => ⟨ps, same_new np a _ h⟩, fun a h => ?_, fun h => h.ext (same_new np)⟩, by simp, fun b hb => ?_⟩
  · rcases h with (h | h) | h
    · exact .inl (.inl h)
    · rw [List.mem_singleton.mp h]; exact .inr np
    · exact .inl (.inr h)
  · rw [List.mem_singleton.mp hb]
    refine ⟨fun q => R0.xs q np, ?_⟩
    cases q : Γ.H0 p with
    | none => rfl
    | some o => exact absurd np (R0.st0 p (by rw [q]; simp))
theorem dr_lst (h : PA X es (tA Z Γ fs)) : PE X (.List es pos) (tR Z Γ (rLst fs)) := by
  refine pe_imp (pe_lst h) fun σ H Q h => ?_
  obtain ⟨s, Lv, R0, po⟩ := h
  refine ⟨s, Lv, R0, ?_⟩
  unfold rLst at po
  cases e1 : fs s with
  | st => rw [e1] at po; exact po.elim
  | er c ns ds s1 => rw [e1] at po; exact po
  | ok ws s1 =>
    rw [e1] at po
    simp only [PD.R.bind_ok] at po
    intro vs H1 Lv1 R1 F1 r1
    cases e2 : fzL ws with
    | none => rw [e2] at po; exact po.elim
    | some ds =>
      rw [e2] at po
      simp only [Option.bind_some] at po
      by_cases hl : ds.length ≤ 1000000
      · rw [if_pos hl] at po
        have r := fzL_ok r1 e2
        refine ⟨by rw [← r.length]; exact lim_line hl, fun p np => ?_⟩
        obtain ⟨R2, F2, nd, nw⟩ := new_own (o := .lst vs) R1 np
        exact po (.ref p) _ Lv1 [p] R2 (F1.trans F2) nd nw ⟨p, vs, rfl, rfl, upd_same, r.mono F2⟩
      · rw [if_neg hl] at po; exact po.elim
theorem dr_dicK : PE X (.Dict [] [] pos) (tR Z Γ rDicK) := by
  refine pe_imp pe_dnewK fun σ H Q h => ?_
  obtain ⟨s, Lv, R0, po⟩ := h
  intro p np
  obtain ⟨R2, F2, nd, nw⟩ := new_own (o := .dK []) R0 np
  exact po (.ref p) _ Lv [p] R2 F2 nd nw ⟨p, [], rfl, rfl, rfl, upd_same, RepL.nil⟩
theorem dr_dicT : PE X (.Dict [] [] pos) (tR Z Γ rDicT) := by
  refine pe_imp pe_dnewT fun σ H Q h => ?_
  obtain ⟨s, Lv, R0, po⟩ := h
  intro p np
  obtain ⟨R2, F2, nd, nw⟩ := new_own (o := .dT []) R0 np
  exact po (.ref p) _ Lv [p] R2 F2 nd nw ⟨p, [], rfl, rfl, rfl, upd_same, RepL.nil⟩
/-- slot i holds what a piece of code gives, own or data -/
theorem Rl.setR {s : S} {Lv : Nat → List Addr} {σ : L2.St} {H : Hp} {i : Nat} {r : Rv} {v : V} {L : List Addr} (R0 : Rl Z (Γ.plus L) s Lv σ H) (hB : ∀ a ∈ Γ.B, Γ.X0 a) (hP : ∀ a o, Γ.pin a o → Γ.X0 a ∨ Ext o) (hi : i < s.length) (hb : Γ.bor i = none) (nd : L.Nodup)
    (nw : ∀ b ∈ L, ¬ Γ.X Lv b ∧ Γ.H0 b = none) (rr : RvRep Z ((Γ.plus L).X Lv) H r v L) :
    Rl Z Γ (s.set i r.sl) (setL Lv i L) (σ.set i (some v)) H ∧ Fw Z ((Γ.plus L).X Lv) H (Γ.X (setL Lv i L)) H := by
  have F : Fw Z ((Γ.plus L).X Lv) H (Γ.X (setL Lv i L)) H := Fw.refl.less fun a h => by
    rcases h with h | ⟨j, h⟩
    · exact .inl (.inl h)
    · by_cases hj : j = i
      · rw [hj, setL_same] at h; exact .inl (.inr h)
      · rw [setL_ne hj] at h; exact .inr ⟨j, h⟩
  have hσ : (σ.set i (some v))[i]? = some (some v) := List.getElem?_set_self (by rw [← R0.len]; exact hi)
  have hs : SloR Z (Γ.X (setL Lv i L)) H r.sl (σ.set i (some v))[i]? L := by
    cases r with
    | d x => obtain ⟨e, rr⟩ := rr; exact ⟨e, v, hσ, rr.mono F⟩
    | o x => exact ⟨v, hσ, OwnRep.mono F (fun _ _ => rfl) rr⟩
  refine ⟨⟨by simpa using R0.len, fun j y hy => ?_, fun j hj => ?_, fun j => ?_, fun j k a hj hk => ?_, fun j a hj => ?_, R0.keep, R0.ktbl, R0.st0, fun a h => R0.x0 a (.inl h), hB, R0.tb, fun j u hu => ?_, fun a o h => let ⟨_, p2, p3, p4⟩ := R0.pn a o h; ⟨hP a o h, p2, p3, p4⟩⟩, F⟩
  · by_cases hj : j = i
    · subst hj
      rw [List.getElem?_set_self hi] at hy
      cases hy
      rw [setL_same]
      exact hs
    · rw [List.getElem?_set_ne (Ne.symm hj)] at hy
      rw [setL_ne hj, List.getElem?_set_ne (Ne.symm hj)]
      exact (R0.sl j y hy).mono F fun _ _ => rfl
  · rw [List.length_set] at hj
    rw [setL_ne (by omega)]
    exact R0.out j hj
  · by_cases hj : j = i
    · subst hj; rw [setL_same]; exact nd
    · rw [setL_ne hj]; exact R0.nd j
  · by_cases hj1 : j = i
    · by_cases hk1 : k = i
      · rw [hj1, hk1]
      · rw [setL_ne hk1] at hk
        rw [hj1, setL_same] at hj
        exact absurd (.inr ⟨k, hk⟩) (nw a hj).1
    · rw [setL_ne hj1] at hj
      by_cases hk1 : k = i
      · rw [hk1, setL_same] at hk
        exact absurd (.inr ⟨j, hj⟩) (nw a hk).1
      · rw [setL_ne hk1] at hk
        exact R0.dj j k a hj hk
  · by_cases hj1 : j = i
    · rw [hj1, setL_same] at hj
      exact .inr ⟨(nw a hj).2, fun q => (nw a hj).1 (.inl q)⟩
    · rw [setL_ne hj1] at hj
      rcases R0.lvb j a hj with z | z
      · exact .inl z
      · exact .inr ⟨z.1, fun q => z.2 (.inl q)⟩
  · have hj : i ≠ j := fun z => by rw [← z, hb] at hu; cases hu
    rw [List.getElem?_set_ne hj]; exact R0.bor j u hu
theorem ds_own (i : Nat) {p1 : Pos} (he : PE X e (tR Z Γ fr)) (hN : X.N.Nodup) (hi : X.N[i]? = some x := by rfl) (hx : Loc X.env.scope x := by first | exact Or.inl rfl | exact Or.inr rfl) (hb : Γ.bor i = none := by rfl)
    (hs : swapsWith e (some (.Name x p1)) pos.line X.env = pure false := by rfl) (hf : X.fn x = true ∨ X.env.scope.names.lookup x = some .local := by first | exact .inl rfl | exact .inr rfl | assumption) : PS X (.Assign [.Name x p1] e pos) (tS Z Γ (sOwn i fr)) := by
  refine ps_imp (ps_set hN hi hx he hs hf) fun Dn σ H h => ?_
  obtain ⟨s, Lv, R0, po⟩ := h
  refine ⟨s, Lv, R0, ?_⟩
  unfold sOwn at po
  cases e1 : fr s with
  | st => rw [e1] at po; exact po.elim
  | er c ns ds s1 => rw [e1] at po; exact fun cls d H' Lv' R' F' x => po cls d _ H' Lv' R' F' x
  | ok r s1 =>
    rw [e1] at po
    simp only [sBind_ok] at po
    intro v H' Lv' L R1 F1 nd nw rr
    by_cases hi : i < s1.length
    · rw [if_pos hi] at po
      obtain ⟨R2, F2⟩ := R1.setR R0.bx R0.pinx hi hb nd nw rr
      exact po.nx R2 (F1.trans F2)
    · rw [if_neg hi] at po; exact po.elim
/-- return of what is owned by nobody -/
def sRetR (f : S → R Rv) : S → SR := fun s => sBind (f s) fun r s1 => .rt r s1
theorem ds_retR (he : PE X e (tR Z Γ fr)) : PS X (.Return (some e) pos) (tS Z Γ (sRetR fr)) := by
  refine ps_imp (ps_ret he) fun Dn σ H h => ?_
  obtain ⟨s, Lv, R0, po⟩ := h
  refine ⟨s, Lv, R0, ?_⟩
  unfold sRetR at po
  cases e1 : fr s with
  | st => rw [e1] at po; exact po.elim
  | er c ns ds s1 => rw [e1] at po; exact fun cls d H' Lv' R' F' x => po cls d _ H' Lv' R' F' x
  | ok r s1 => rw [e1] at po; exact fun v H' Lv' L R1 F1 nd nw rr => po v σ H' Lv' L R1 F1 nd nw rr
end
end PD

set_option linter.all false
set_option maxRecDepth 100000
/-! PD10: defs. -/
namespace PD
open PySem PySem.Spec PyProof.Rows L2

/-- what a def gives -/
inductive FR where
  | ok (r : Rv) | er (c : Str) (ns : List Str) (ds : List D) | st
/-- the promise of a def that changes nothing: from data, by g -/
def spP (Z : Zt) (n : Nat) (g : List D → FR) : Sp := fun vs H Q E => vs.length = n ∧ ∃ (Y : Addr → Prop) (ds : List D), (∀ a, Y a → H a ≠ none) ∧ LamX.Tabs Z.T H ∧ RepL Z Y H ds vs ∧ match g ds with
  | .ok r => ∀ v H' L, Kp Z H H' → L.Nodup → (∀ b ∈ L, H b = none ∧ H' b ≠ none) → RvRep Z (fun a => Y a ∨ a ∈ L) H' r v L → Q v H'
  | .er c ns ds => ∀ cls d H', Kp Z H H' → ExR Z Y H' c ns ds cls d → E cls d H'
  | .st => False
def Gp (Y : Addr → Prop) (H : Hp) (E : XK) : Gm := ⟨Y, H, [], fun _ => none, fun cls d _ H' => E cls d H', fun _ _ => False⟩
/-- the body's run at data -/
def runP (n : Nat) (body : S → SR) (ds : List D) : FR := match body (ds.map Sl.fz ++ List.replicate (n - ds.length) Sl.no) with
  | .nx _ => .ok (.d .non)
  | .rt r _ => .ok r
  | .er c ns ds _ => .er c ns ds
  | _ => .st

theorem RvRep.mono {Z : Zt} {X X' : Addr → Prop} {H H' : Hp} (f : Fw Z X H X' H') {r : Rv} {v : V} {L : List Addr} (k : ∀ a ∈ L, H' a = H a) (h : RvRep Z X H r v L) : RvRep Z X' H' r v L := by
  cases r with
  | d x => exact ⟨h.1, h.2.mono f⟩
  | o x => exact OwnRep.mono f k h

section
variable {P : Program} {w : World} {Z : Zt} {base : Heap}
theorem rl_start {Y : Addr → Prop} {H : Hp} {E : XK} {N : List Str} {ds : List D} {vs : List V} (hY : ∀ a, Y a → H a ≠ none) (tb : LamX.Tabs Z.T H) (r : RepL Z Y H ds vs) :
    Rl Z (Gp Y H E) (ds.map Sl.fz ++ List.replicate (N.length - ds.length) Sl.no) (fun _ => []) (L2.start N vs) H := by
  have hl := r.length
  have F : Fw Z Y H ((Gp Y H E).X fun _ => []) H := Fw.refl.less fun a h => by
    rcases h with h | ⟨i, h⟩
    · exact h
    · cases h
  refine { len := ?_, sl := fun i x hx => ?_, out := fun _ _ => rfl, nd := fun _ => List.nodup_nil, dj := fun i j a h _ => (nomatch h), lvb := fun i a h => (nomatch h), keep := fun a o h _ _ => h, ktbl := fun a ps h => ⟨ps, h⟩, st0 := fun a h => h, x0 := hY, bx := fun a h => (nomatch h), tb := tb, bor := fun i v h => (nomatch h), pn := fun a o h => h.elim }
  · unfold L2.start; simp [hl]
  by_cases hi : i < ds.length
  · rw [List.getElem?_append_left (by simpa using hi), List.getElem?_map, List.getElem?_eq_getElem hi] at hx
    cases hx
    obtain ⟨v, e, rv⟩ := r.get (List.getElem?_eq_getElem hi)
    refine ⟨rfl, v, ?_, rv.mono F⟩
    unfold L2.start
    rw [List.getElem?_append_left (by simp; omega), List.getElem?_map, e]
    rfl
  · rw [List.getElem?_append_right (by simp; omega), List.getElem?_replicate] at hx
    split at hx
    · cases hx; rfl
    · cases hx
/-- THE RULE for a def that changes nothing -/
theorem okP {x qual : Str} {st : Stmt} {f : Addr} {fd : FuncData} {N ps : List Str} {k : Nat} {body : S → SR} (F : Fun Z.K x qual st f fd) (Sc : FnScope N ps (defScope st))
    (hb : ∀ (cdv : Value) (A : Around) (outer : List Env) (s : Shared) (Y : Addr → Prop) (H : Hp) (E : XK), Room k (A.deeper (envOfC qual (defScope st) s.heap.objs.size f cdv)) →
      PSs (cxOf (L2.CX P w) P w Z.K Z.mg base N qual (defScope st) f cdv A outer s H E) (defBody st) (tS Z (Gp Y H E) body)) :
    FnOk P w Z.K Z.mg base (L2.CX P w) (k + 1) f fd ps (spP Z ps.length (runP N.length body)) := by
  refine F.okX Sc (fun vs H Q E h => h.1) fun cdv A outer s H vs Q E hr h => ?_
  obtain ⟨hl, Y, ds, hY, tb, r, po⟩ := h
  refine ⟨_, hb cdv A outer s Y H E hr, _, _, rl_start (N := N) (E := E) hY tb r, ?_⟩
  unfold runP at po
  have kp : ∀ {s' : S} {L : List Addr} {σ' : L2.St} {H' : Hp} {Lv' : Nat → List Addr}, Rl Z ((Gp Y H E).plus L) s' Lv' σ' H' → Kp Z H H' := fun R' =>
    ⟨fun a o h t => R'.keep a o h (fun z => by cases z) t, R'.ktbl, fun _ => R'.tb⟩
  have hX : (Gp Y H E).plus [] = Gp Y H E := by unfold Gm.plus; simp
  generalize body (ds.map Sl.fz ++ List.replicate (N.length - ds.length) Sl.no) = b at po
  cases b with
  | nx s' => exact fun σ' H' Lv' R' F' => po .non H' [] (kp (by rw [hX]; exact R')) List.nodup_nil (fun b hb => by cases hb) ⟨rfl, rep_non⟩
  | rt q s' =>
    intro v σ' H' Lv' L R' F' nd nw rr
    refine po v H' L (kp R') nd (fun b hb => ⟨(nw b hb).2, R'.x0 b (.inr hb)⟩) (rr.mono (Fw.refl.less fun a h => .inl h) fun _ _ => rfl)
  | er c ns es s' =>
    intro cls d σ' H' Lv' R' F' x
    refine po cls d H' (kp (L := []) (by rw [hX]; exact R')) ?_
    obtain ⟨C, e1, e2, e3⟩ := x
    refine ⟨C, e1, e2, e3.imp id fun ⟨dd, vs, a, b, c, d⟩ => ⟨dd, vs, a, b, c, d.mono (Fw.refl.less fun a h => .inl h)⟩⟩
  | bk s' => exact po.elim
  | ct s' => exact po.elim
  | st => exact po.elim
end

/-! ### calls -/
def EConst (Γ : Gm) : Prop := ∀ cls d σ σ' H, Γ.E cls d σ H → Γ.E cls d σ' H
def PX (X : Cx) (Γ : Gm) : Prop := Passes (L2.CX X.prog X.w) X fun cls d H => ∀ σ, Γ.E cls d σ H
theorem px_of {X : Cx} {Γ : Gm} (tk : Takes X Γ.E) : PX X Γ := passes_call tk fun _ _ σ _ h => h σ
theorem px_never {X : Cx} {Γ : Gm} (h : ∀ cls d σ H, ¬ Γ.E cls d σ H) : PX X Γ := fun pins σ H s e s' I c => by
  obtain ⟨_, _, _, _, _, _, _, _, _, _, _, _, z⟩ := c
  exact (h _ _ [] _ (z [])).elim
def rCall (n : Nat) (g : List D → FR) (f : S → R (List W)) : S → R Rv := fun s => (f s).bind fun ws s1 => match fzL ws with
  | some ds => if ds.length = n then (match g ds with
    | .ok r => .ok r s1
    | .er c ns es => .er c ns es s1
    | .st => .st) else .st
  | none => .st
section
variable {X : Cx} {Z : Zt} {Γ : Gm} {e : Expr} {es : List Expr} {fs : S → R (List W)} {pos p : Pos} {x : Str} {k n : Nat} {f : Addr} {fd : FuncData} {ps : List Str} {g : List D → FR}
/-- what is wanted of a result, the objects of Y told -/
def goP (Z : Zt) (Y : Addr → Prop) (H : Hp) (Q : VK) (E : XK) : FR → Prop
  | .ok r => ∀ v H' L, Kp Z H H' → L.Nodup → (∀ b ∈ L, H b = none ∧ H' b ≠ none) → RvRep Z (fun a => Y a ∨ a ∈ L) H' r v L → Q v H'
  | .er c ns ds => ∀ cls d H', Kp Z H H' → ExR Z Y H' c ns ds cls d → E cls d H'
  | .st => False
/-- what is wanted of a value that nobody owns yet -/
def PoR (Z : Zt) (Γ : Gm) (r : R Rv) (Lv : Nat → List Addr) (σ : L2.St) (H : Hp) (Q : VK) : Prop := match r with
  | .ok a s' => ∀ v H' Lv' L, Rl Z (Γ.plus L) s' Lv' σ H' → Fw Z (Γ.X Lv) H ((Γ.plus L).X Lv') H' → L.Nodup → (∀ b ∈ L, ¬ Γ.X Lv' b ∧ Γ.H0 b = none) → RvRep Z ((Γ.plus L).X Lv') H' a v L → Q v H'
  | .er c ns ds s' => ∀ cls d H' Lv', Rl Z Γ s' Lv' σ H' → Fw Z (Γ.X Lv) H (Γ.X Lv') H' → ExR Z (Γ.X Lv') H' c ns ds cls d → Γ.E cls d σ H'
  | .st => False
theorem call_Po (hE : EConst Γ) {s : S} {Lv : Nat → List Addr} {σ : L2.St} {H : Hp} {Q : VK} (R0 : Rl Z Γ s Lv σ H) (po : PoR Z Γ (rCall n g fs s) Lv σ H Q) :
    Po Z Γ (WRepL Z) (fs s) Lv σ H fun vs H1 => ∃ s1 Lv1 ds, Rl Z Γ s1 Lv1 σ H1 ∧ Fw Z (Γ.X Lv) H (Γ.X Lv1) H1 ∧ RepL Z (Γ.X Lv1) H1 ds vs ∧ ds.length = n ∧ goP Z (Γ.X Lv1) H1 Q (fun cls d H => ∀ σ, Γ.E cls d σ H) (g ds) := by
  unfold PoR at po
  unfold rCall at po
  cases e1 : fs s with
  | st => rw [e1] at po; exact po.elim
  | er c ns ds s1 => rw [e1] at po; exact po
  | ok ws s1 =>
    rw [e1] at po
    simp only [PD.R.bind_ok] at po
    intro vs H1 Lv1 R1 F1 r1
    cases e2 : fzL ws with
    | none => rw [e2] at po; exact po.elim
    | some ds =>
      rw [e2] at po
      simp only at po
      by_cases hl : ds.length = n
      · rw [if_pos hl] at po
        have r := fzL_ok r1 e2
        refine ⟨s1, Lv1, ds, R1, F1, r, hl, ?_⟩
        unfold goP
        cases e3 : g ds with
        | st => rw [e3] at po; exact po.elim
        | er c ns es =>
          rw [e3] at po
          intro cls d H' kp x σ'
          have R2 := R1.kp (E := Γ.E) (L := []) kp (fun b hb => by cases hb)
          have hX : Γ.plus [] = Γ := by unfold Gm.plus; simp
          exact hE _ _ _ _ _ (po cls d H' Lv1 (by rw [← hX]; exact R2) (F1.trans kp.fw) x)
        | ok r' =>
          rw [e3] at po
          intro v H' L kp nd nw rr
          have Fx : Fw Z (Γ.X Lv1) H1 ((Γ.plus L).X Lv1) H' := ⟨fun a o h _ t => kp.keep a o h t, kp.ktbl, fun a h => by
            rcases h with (h | h) | h
            · exact .inl (.inl h)
            · exact .inr (nw a h).1
            · exact .inl (.inr h), kp.tabs⟩
          refine po v H' Lv1 L (R1.kp (E := Γ.E) kp nw) (F1.trans Fx) nd (fun b hb => ⟨fun q => R1.xs q (nw b hb).1, ?_⟩) (rr.mono (Fw.refl.less fun a h => ?_) fun _ _ => rfl)
          · cases q : Γ.H0 b with
            | none => rfl
            | some o => exact absurd (nw b hb).1 (R1.st0 b (by rw [q]; simp))
          · rcases h with (h | h) | h
            · exact .inl (.inl h)
            · exact .inr h
            · exact .inl (.inr h)
      · rw [if_neg hl] at po; exact po.elim
theorem call_D2 (hE : EConst Γ) {σ : L2.St} {H : Hp} {Q : VK} (h : tR Z Γ (rCall n g fs) σ H Q) : tA Z Γ fs σ H fun vs H1 => ∃ s Lv ds, Rl Z Γ s Lv σ H1 ∧ RepL Z (Γ.X Lv) H1 ds vs ∧ ds.length = n ∧ goP Z (Γ.X Lv) H1 Q (fun cls d H => ∀ σ, Γ.E cls d σ H) (g ds) := by
  obtain ⟨s, Lv, R0, po⟩ := h
  exact ⟨s, Lv, R0, (call_Po hE R0 po).mono fun vs H1 ⟨s1, Lv1, ds, R1, _, r, hl, q⟩ => ⟨s1, Lv1, ds, R1, r, hl, q⟩⟩
theorem call_D (hE : EConst Γ) {σ : L2.St} {H : Hp} {Q : VK} (h : tR Z Γ (rCall n g fs) σ H Q) : tCall (spP Z n g) [] (fun cls d H => ∀ σ, Γ.E cls d σ H) (tA Z Γ fs) σ H Q := by
  obtain ⟨s, Lv, R0, po⟩ := call_D2 hE h
  refine ⟨s, Lv, R0, po.mono fun vs H1 ⟨s1, Lv1, ds, R1, r, hl, q⟩ => ?_⟩
  rw [List.append_nil]
  refine ⟨by rw [← r.length]; exact hl, Γ.X Lv1, ds, fun a h => R1.xs h, R1.tb, r, ?_⟩
  unfold goP at q
  cases e : g ds with
  | ok r => rw [e] at q; exact q
  | er c ns ds => rw [e] at q; exact q
  | st => rw [e] at q; exact q
theorem dr_call (F : FnOk X.prog X.w X.K X.mg X.base (L2.CX X.prog X.w) k f fd ps (spP Z n g)) (hr : Room k X.A) (hg : Gl X x) (hm : X.mg x = some (.ref f)) (hk : PySem.W.keepIn X.K (.ref f) = true) (hb : Binds X.K fd ps []) (px : PX X Γ) (hE : EConst Γ)
    (ha : PA X (e :: es) (tA Z Γ fs)) (hdb : (x == ("__debug__" : Str)) = false := by decide) (he : starEach (e :: es) X.env = (false, eval e X.env) :: starEach es X.env := by rfl) (hpl : (backTo pos (starEach es X.env)).any (·.1) = false := by rfl) :
    PE X (.Call (.Name x p) (e :: es) [] pos) (tR Z Γ (rCall n g fs)) :=
  pe_imp (pe_call F hr hg hm hk hb .nil px ha hdb he hpl) fun _ _ _ h => call_D hE h
theorem de_call (F : FnOk X.prog X.w X.K X.mg X.base (L2.CX X.prog X.w) k f fd ps (spP Z n g)) (hr : Room k X.A) (hg : Gl X x) (hm : X.mg x = some (.ref f)) (hk : PySem.W.keepIn X.K (.ref f) = true) (hb : Binds X.K fd ps []) (px : PX X Γ) (hE : EConst Γ)
    (ha : PA X (e :: es) (tA Z Γ fs)) (hdb : (x == ("__debug__" : Str)) = false := by decide) (he : starEach (e :: es) X.env = (false, eval e X.env) :: starEach es X.env := by rfl) (hpl : (backTo pos (starEach es X.env)).any (·.1) = false := by rfl) :
    PE X (.Call (.Name x p) (e :: es) [] pos) (tE Z Γ (eFz (rCall n g fs))) := de_fz (dr_call F hr hg hm hk hb px hE ha hdb he hpl)
end
theorem econst_p {Y : Addr → Prop} {H : Hp} {E : XK} : EConst (Gp Y H E) := fun _ _ _ _ _ h => h
theorem econst_f {Γ : Gm} (h : ∀ cls d σ H, ¬ Γ.E cls d σ H) : EConst Γ := fun _ _ _ _ _ q => (h _ _ _ _ q).elim

/-! ### isinstance -/
/-- the built-in class it is of -/
def tyD : D → Option String
  | .non => some "NoneType"
  | .bl _ => some "bool"
  | .int _ => some "int"
  | .str _ => some "str"
  | .tup _ => some "tuple"
  | .lst _ => some "list"
  | .dic _ _ => some "dict"
  | .dit _ _ => some "dict"
  | _ => none
def gIsi (T : String) : List D → Option D
  | [d] => (tyD d).bind fun t => (kitB t T).map .bl
  | _ => none
section
variable {X : Cx} {Z : Zt} {Γ : Gm} {Y : Addr → Prop} {H : Hp} {e : Expr} {fa : S → R W} {pos p p2 : Pos}
theorem vw_ty {d : D} {v : V} {t : String} (h : Vw Z Y H d v) (e : tyD d = some t) : TyX Z.K H v (.type t) := by
  cases d with
  | non => rw [vw_non h]; cases e; exact .base .non
  | bl b => rw [vw_bl h]; cases e; exact .base (.bl b)
  | int b => rw [vw_int h]; cases e; exact .base (.int b)
  | str b => rw [vw_str h]; cases e; exact .base (.str b)
  | lst ds => obtain ⟨a, vs, rfl, ha, _⟩ := vw_lst h; cases e; exact .base (.lst ha)
  | tup ds =>
    rcases h with h | ⟨o, L, q, h⟩
    · simp only [Rep] at h
      obtain ⟨a, vs, rfl, t, _⟩ := h
      cases e
      rcases t with ⟨_, t⟩ | ⟨o, its, n, hk, hc, _⟩
      · exact .base (.tup t)
      · exact .kTuple hk hc
    · cases o <;> cases q
  | dic ks ds => obtain ⟨a, vs, rfl, _, ha, _⟩ := vw_dic h; cases e; exact .base (.dK ha)
  | dit ks ds => obtain ⟨a, vs, rfl, _, ha, _⟩ := vw_dit h; cases e; exact .base (.dT ha)
  | _ => cases e
/-- isinstance(e, T), T a built-in class -/
theorem de_isi {T : Str} {n : String} (hK : X.K = Z.K) (hg : Gl X "isinstance") (hm : X.mg "isinstance" = none) (hg2 : Gl X T) (hm2 : X.mg T = none) (hv : bootBuiltins T = some (.type n)) (ha : PE X e (tE Z Γ fa)) (hn : T ≠ "__name__" := by decide) (hd : (T == ("__debug__" : Str)) = false := by decide)
    (he : starEach [e, .Name T p2] X.env = (false, eval e X.env) :: starEach [.Name T p2] X.env := by rfl) (he2 : starEach [.Name T p2] X.env = (false, eval (.Name T p2) X.env) :: starEach [] X.env := by rfl) (hpl : (backTo pos (starEach [.Name T p2] X.env)).any (·.1) = false := by rfl) :
    PE X (.Call (.Name "isinstance" p) [e, .Name T p2] [] pos) (tE Z Γ (eUn (gIsi n) fa)) := by
  refine pe_imp (pe_callB call_isi hg hm (by decide +kernel) (pa_cons ha (pa_cons (pe_bltn (v := .ty n) hg2 hm2 hv rfl hn hd) pa_nil he2) he) (he := he) (hpl := hpl)) fun σ H Q h => ?_
  obtain ⟨s, Lv, R0, po⟩ := h
  refine ⟨s, Lv, R0, po.bind.mono fun v H1 ⟨w, s1, Lv1, _, R1, F1, r1, po1⟩ => ?_⟩
  cases e1 : rdW s1 w with
  | none => rw [e1] at po1; exact po1.elim
  | some d =>
    rw [e1] at po1
    simp only [Option.bind_some, gIsi] at po1
    cases e2 : tyD d with
    | none => rw [e2] at po1; exact po1.elim
    | some t =>
      rw [e2] at po1
      simp only [Option.bind_some] at po1
      cases e3 : kitB t n with
      | none => rw [e3] at po1; exact po1.elim
      | some b =>
        rw [e3] at po1
        exact ⟨v, .ty n, .type t, .type n, b, rfl, .ty n, by rw [hK]; exact vw_ty (rd_ok R1 r1 e1) e2, kit_ty e3, po1.ok R1 (rep_bl (Z := Z) (Y := Γ.X Lv1) (H := H1))⟩
end
end PD

set_option linter.all false
set_option maxRecDepth 100000
/-! PD11: list comprehensions. -/
namespace PD
open PySem PySem.Spec PyProof.Rows L2

/-- the slots of the comprehension's own names, emptied -/
def clr (vs : List Nat) (s : S) : S := vs.foldl (fun s i => s.set i .no) s
/-- .. as they were -/
def rst (vs : List Nat) (s0 s : S) : S := vs.foldl (fun s i => s.set i (s0.getD i .no)) s
def noOwn (vs : List Nat) (s : S) : Bool := vs.all fun i => match s[i]? with
  | some (.ow _) => false
  | _ => true
def tYesD : S → R Bool := fun s => .ok true s
/-- the turns -/
def lcD (vs : List Nat) (t : D → S → R Unit) (c : S → R Bool) (f : S → R W) : List D → S → R (List D)
  | [], s => .ok [] s
  | d :: ds, s => match t d s with
    | .ok _ s1 => (c s1).bind fun b s2 => if b = true then (f s2).bind fun w s3 => match fzW w with
        | some x => if noOwn vs s3 = true then (lcD vs t c f ds (clr vs s3)).bind fun xs s4 => .ok (x :: xs) s4 else .st
        | none => .st
      else if noOwn vs s2 = true then lcD vs t c f ds (clr vs s2) else .st
    | _ => .st
/-- [f for t in fi if c], vs the slots of its own names -/
def eLc (vs : List Nat) (t : D → S → R Unit) (fi : S → R (List D)) (c : S → R Bool) (f : S → R W) : S → R (List D) := fun s => (fi s).bind fun ds s1 =>
  if noOwn vs s1 = true ∧ ds.length ≤ lim then (match lcD vs t c f ds (clr vs s1) with
    | .ok xs s2 => .ok xs (rst vs s1 s2)
    | _ => .st) else .st
def eLcD (vs : List Nat) (t : D → S → R Unit) (fi : S → R (List D)) (c : S → R Bool) (f : S → R W) : S → R W := fun s => (eLc vs t fi c f s).bind fun xs s1 => .ok (.d (.lst xs)) s1
theorem set_len {α : Type} : ∀ (vs : List Nat) (l : List α) (f : List α → Nat → α), (vs.foldl (fun s i => s.set i (f s i)) l).length = l.length
  | [], l, f => rfl
  | v :: vs, l, f => by rw [List.foldl_cons, set_len vs]; simp
theorem clr_len (vs : List Nat) (s : S) : (clr vs s).length = s.length := set_len vs s fun _ _ => .no
theorem rst_len (vs : List Nat) (s0 s : S) : (rst vs s0 s).length = s.length := set_len vs s fun _ i => s0.getD i .no
theorem clr_get : ∀ (vs : List Nat) (s : S) (i : Nat), (clr vs s)[i]? = if i ∈ vs then s[i]?.map (fun _ => Sl.no) else s[i]?
  | [], s, i => by simp [clr]
  | v :: vs, s, i => by
    show (clr vs (s.set v .no))[i]? = _
    rw [clr_get vs, List.getElem?_set]
    by_cases h2 : v = i
    · subst h2
      rw [if_pos rfl]
      have hm : v ∈ v :: vs := List.mem_cons_self
      rw [if_pos hm]
      by_cases h3 : v < s.length
      · rw [if_pos h3, List.getElem?_eq_getElem h3]; split <;> rfl
      · rw [if_neg h3, List.getElem?_eq_none (by omega)]; split <;> rfl
    · rw [if_neg h2]
      by_cases h1 : i ∈ vs
      · rw [if_pos h1, if_pos (List.mem_cons_of_mem _ h1)]
      · rw [if_neg h1, if_neg (by simp [h1, Ne.symm h2])]
theorem rst_get (s0 : S) : ∀ (vs : List Nat) (s : S) (i : Nat), (rst vs s0 s)[i]? = if i ∈ vs then s[i]?.map (fun _ => s0.getD i .no) else s[i]?
  | [], s, i => by simp [rst]
  | v :: vs, s, i => by
    show (rst vs s0 (s.set v (s0.getD v .no)))[i]? = _
    rw [rst_get s0 vs, List.getElem?_set]
    by_cases h2 : v = i
    · subst h2
      rw [if_pos rfl]
      have hm : v ∈ v :: vs := List.mem_cons_self
      rw [if_pos hm]
      by_cases h3 : v < s.length
      · rw [if_pos h3, List.getElem?_eq_getElem h3]; split <;> rfl
      · rw [if_neg h3, List.getElem?_eq_none (by omega)]; split <;> rfl
    · rw [if_neg h2]
      by_cases h1 : i ∈ vs
      · rw [if_pos h1, if_pos (List.mem_cons_of_mem _ h1)]
      · rw [if_neg h1, if_neg (by simp [h1, Ne.symm h2])]
theorem wipe_get : ∀ (vs : List Nat) (σ : L2.St) (i : Nat), (wipe σ vs)[i]? = if i ∈ vs then σ[i]?.map (fun _ => none) else σ[i]?
  | [], σ, i => by simp [wipe]
  | v :: vs, σ, i => by
    show ((wipe σ vs).set v none)[i]? = _
    rw [List.getElem?_set, wipe_get vs, wipe_length]
    by_cases h2 : v = i
    · subst h2
      rw [if_pos rfl]
      have hm : v ∈ v :: vs := List.mem_cons_self
      rw [if_pos hm]
      by_cases h3 : v < σ.length
      · rw [if_pos h3, List.getElem?_eq_getElem h3]; rfl
      · rw [if_neg h3, List.getElem?_eq_none (by omega)]; rfl
    · rw [if_neg h2]
      by_cases h1 : i ∈ vs
      · rw [if_pos h1, if_pos (List.mem_cons_of_mem _ h1)]
      · rw [if_neg h1, if_neg (by simp [h1, Ne.symm h2])]
theorem wipe_eq {vs : List Nat} {σ σ2 : L2.St} (hl : σ2.length = σ.length) (h : ∀ j : Nat, j ∉ vs → σ2[j]? = σ[j]?) : wipe σ2 vs = wipe σ vs := by
  refine List.ext_getElem? fun i => ?_
  rw [wipe_get, wipe_get]
  by_cases hi : i ∈ vs
  · rw [if_pos hi, if_pos hi]
    by_cases h3 : i < σ.length
    · rw [List.getElem?_eq_getElem h3, List.getElem?_eq_getElem (by omega)]; rfl
    · rw [List.getElem?_eq_none (by omega), List.getElem?_eq_none (by omega)]
  · rw [if_neg hi, if_neg hi, h i hi]

section
variable {Z : Zt} {Γ : Gm} {s : S} {Lv : Nat → List Addr} {σ : L2.St} {H : Hp} {vs : List Nat}
theorem noOwn_ok (h : noOwn vs s = true) {i : Nat} (hi : i ∈ vs) (o : O) : s[i]? ≠ some (.ow o) := fun q => by
  have h := List.all_eq_true.mp h i hi
  rw [q] at h
  cases h
/-- into the block: the own names are empty -/
theorem Rl.clr (R0 : Rl Z Γ s Lv σ H) (hn : noOwn vs s = true) (h0 : (vs.all fun i => (Γ.bor i).isNone) = true) : Rl Z Γ (clr vs s) Lv (wipe σ vs) H := by
  refine { len := ?_, sl := fun i x hx => ?_, out := ?_, nd := R0.nd, dj := R0.dj, lvb := R0.lvb, keep := R0.keep, ktbl := R0.ktbl, st0 := R0.st0, x0 := R0.x0, bx := R0.bx, tb := R0.tb, bor := ?_, pn := R0.pn }
  · rw [clr_len, wipe_length]; exact R0.len
  · rw [clr_get] at hx
    by_cases hi : i ∈ vs
    · rw [if_pos hi] at hx
      cases e : s[i]? with
      | none => rw [e] at hx; cases hx
      | some y =>
        rw [e] at hx
        cases hx
        have q := R0.sl i y e
        cases y with
        | no => exact q
        | fz d => exact q.1
        | ow o => exact absurd e (noOwn_ok hn hi o)
    · rw [if_neg hi] at hx
      rw [wipe_get, if_neg hi]
      exact R0.sl i x hx
  · rw [clr_len]; exact R0.out
  · intro i v hv
    have n0 : i ∉ vs := fun hi => by
      have h := List.all_eq_true.mp h0 i hi
      rw [hv] at h; cases h
    rw [wipe_get, if_neg n0]; exact R0.bor i v hv
end
theorem wipe_wipe {vs : List Nat} {σ : L2.St} : wipe (wipe σ vs) vs = wipe σ vs := wipe_eq (wipe_length σ vs) fun j hj => by rw [wipe_get, if_neg hj]
section
variable {Z : Zt} {Γ : Gm} {s s' : S} {Lv Lv' : Nat → List Addr} {σ : L2.St} {H H' : Hp} {vs : List Nat}
/-- out of the block -/
theorem Rl.rst {p : Addr} {acc : List V} (R0 : Rl Z Γ s Lv σ H) (R1 : Rl Z (Γ.blk p acc) s' Lv' (wipe σ vs) H') (F : Fw Z (Γ.X Lv) H ((Γ.blk p acc).X Lv') H') (hn : noOwn vs s = true) (hc : ∀ i ∈ vs, ∀ x, s'[i]? = some x → x = .no) (hl : s'.length = s.length) :
    Rl Z Γ (rst vs s s') Lv' σ H' ∧ Fw Z (Γ.X Lv) H (Γ.X Lv') H' := by
  have F2 : Fw Z ((Γ.blk p acc).X Lv') H' (Γ.X Lv') H' := Fw.refl.less fun a h => by
    rcases h with h | h
    · exact .inl (.inl h)
    · exact .inr h
  have F3 := F.trans F2
  refine ⟨{ len := ?_, sl := fun i x hx => ?_, out := ?_, nd := R1.nd, dj := R1.dj, lvb := fun i a h => ?_, keep := R1.keep, ktbl := R1.ktbl, st0 := R1.st0, x0 := fun a h => R1.x0 a (.inl h), bx := R0.bx, tb := R1.tb, bor := R0.bor, pn := fun a o h => ?_ }, F3⟩
  · rw [rst_len, hl]; exact R0.len
  · rw [rst_get] at hx
    by_cases hi : i ∈ vs
    · rw [if_pos hi] at hx
      cases e : s'[i]? with
      | none => rw [e] at hx; cases hx
      | some y =>
        rw [e] at hx
        have ey := hc i hi y e
        subst ey
        have hLi : Lv' i = [] := R1.sl i _ e
        have hx : s.getD i .no = x := by simpa using hx
        have hlt : i < s.length := by
          obtain ⟨h, _⟩ := List.getElem?_eq_some_iff.mp e
          omega
        have e2 : s[i]? = some x := by
          rw [List.getElem?_eq_getElem hlt, ← hx]
          simp [List.getD, List.getElem?_eq_getElem hlt]
        have q := R0.sl i x e2
        rw [hLi]
        cases x with
        | no => rfl
        | fz d => obtain ⟨_, v, e3, r⟩ := q; exact ⟨rfl, v, e3, r.mono F3⟩
        | ow o => exact absurd e2 (noOwn_ok hn hi o)
    · rw [if_neg hi] at hx
      have q := R1.sl i x hx
      rw [wipe_get, if_neg hi] at q
      exact q.mono F2 fun _ _ => rfl
  · intro i hi
    rw [rst_len] at hi
    exact R1.out i hi
  · rcases R1.lvb i a h with z | z
    · exact .inl z
    · exact .inr ⟨z.1, fun q => z.2 (.inl q)⟩
  · obtain ⟨p1, p2, p3, p4⟩ := R1.pn a o (.inl h)
    exact ⟨R0.pinx a o h, p2, p3, p4⟩
end
section
variable {X : Cx} {Z : Zt} {Γ : Gm} {elt tg iter : Expr} {ifs : List Expr} {scope : Scope} {own : List (Str × Nat)} {t : D → S → R Unit} {ks : List Nat} {fi : S → R (List D)} {c : S → R Bool} {f : S → R W} {pos : Pos}
theorem dts_nil : PTs X [] (tT Z Γ tYesD) := ⟨fun pins s σ H Q I h => by
  obtain ⟨s', Lv, R0, po⟩ := h
  exact pts_nil.run pins s σ H Q I (po.ok R0 rfl)⟩
theorem dts_one {e : Expr} (h : PT X e (tT Z Γ c)) : PTs X [e] (tT Z Γ c) := pts_one h
theorem pe_ex {α : Type} {e : Expr} {u : α → TE} (h : ∀ a, PE X e (u a)) : PE X e fun σ H Q => ∃ a, u a σ H Q := ⟨fun pins s σ H Q I ⟨a, q⟩ => (h a).run pins s σ H Q I q⟩
theorem pts_ex {α : Type} {es : List Expr} {u : α → TT} (h : ∀ a, PTs X es (u a)) : PTs X es fun σ H Q => ∃ a, u a σ H Q := ⟨fun pins s σ H Q I ⟨a, q⟩ => (h a).run pins s σ H Q I q⟩
theorem pg_ex {α : Type} {u : α → TG} (h : ∀ a, PG X tg (u a)) : PG X tg fun v σ H Q => ∃ a, u a v σ H Q := ⟨fun pins s σ H v u Q I r ⟨a, q⟩ => (h a).run pins s σ H v u Q I r q⟩
abbrev tEb (Z : Zt) (Γ : Gm) (f : S → R W) : TE := fun σ H Q => ∃ pa : Addr × List V, tE Z (Γ.blk pa.1 pa.2) f σ H Q
abbrev tTb (Z : Zt) (Γ : Gm) (f : S → R Bool) : TT := fun σ H Q => ∃ pa : Addr × List V, tT Z (Γ.blk pa.1 pa.2) f σ H Q
abbrev tGb (Z : Zt) (Γ : Gm) (ks : List Nat) (t : D → S → R Unit) : TG := fun v σ H Q => ∃ pa : Addr × List V, tG Z (Γ.blk pa.1 pa.2) ks t v σ H Q
/-- the turns keep the slots' number; the own names are empty ahead of each -/
theorem lc_D {vs : List Nat} (hks : ∀ k ∈ ks, k ∈ vs) (h0 : (vs.all fun i => (Γ.bor i).isNone) = true) {σ : L2.St} {H : Hp} {Q : VK} (h : tE Z Γ (eLcD vs t fi c f) σ H Q) : tLc (tI Z Γ fi) (tGb Z Γ ks t) (tTb Z Γ c) (tEb Z Γ f) vs σ H Q := by
  obtain ⟨s, Lv, R0, po⟩ := h
  have po : Po Z Γ (WRep Z) ((fi s).bind fun ds s1 => (if noOwn vs s1 = true ∧ ds.length ≤ lim then (match lcD vs t c f ds (clr vs s1) with
    | .ok xs s2 => .ok xs (rst vs s1 s2)
    | _ => .st) else .st : R (List D)).bind fun xs s1 => .ok (.d (.lst xs)) s1) Lv σ H Q := by
    have e : eLcD vs t fi c f s = ((fi s).bind fun ds s1 => (if noOwn vs s1 = true ∧ ds.length ≤ lim then (match lcD vs t c f ds (clr vs s1) with
      | .ok xs s2 => .ok xs (rst vs s1 s2)
      | _ => .st) else .st : R (List D)).bind fun xs s1 => .ok (.d (.lst xs)) s1) := by
      unfold eLcD eLc
      cases fi s <;> rfl
    rw [← e]
    exact po
  refine ⟨s, Lv, R0, po.bind.mono fun J H1 ⟨ds, s1, Lv1, _, R1, F1, itr, po1⟩ => ?_⟩
  by_cases hc : noOwn vs s1 = true ∧ ds.length ≤ lim
  · rw [if_pos hc] at po1
    obtain ⟨hn, hlim⟩ := hc
    cases hr : lcD vs t c f ds (clr vs s1) with
    | st => rw [hr] at po1; exact po1.elim
    | er a b d e => rw [hr] at po1; exact po1.elim
    | ok xs s2 =>
      rw [hr] at po1
      simp only [PD.R.bind_ok] at po1
      intro p np
      have R2 := R1.toBlk np
      have Rb : Rl Z (Γ.blk p []) (clr vs s1) Lv1 (wipe σ vs) (upd H1 p (.lst [])) := R2.clr hn h0
      have npin : ∀ o, ¬ Γ.pin p o := fun o h => by
        obtain ⟨_, _, _, e⟩ := R1.pn p o h
        rw [np] at e; cases e
      have hX0 : ¬ Γ.X0 p := fun h => R1.x0 p h np
      have hH0 : Γ.H0 p = none := by
        cases q : Γ.H0 p with
        | none => rfl
        | some o => exact absurd np (R1.st0 p (by rw [q]; simp))
      have F12 : Fw Z (Γ.X Lv1) H1 ((Γ.blk p []).X Lv1) (upd H1 p (.lst [])) := by
        refine ⟨fun a o h _ _ => same_new np a o h, fun a ps h => ⟨ps, same_new np a _ h⟩, fun a h => ?_, fun h => h.ext (same_new np)⟩
        rcases h with (h | h) | h
        · exact .inl (.inl h)
        · rw [List.mem_singleton.mp h]; exact .inr np
        · exact .inl (.inr h)
      refine ⟨fun i m H' => m = ds.length - i ∧ i ≤ ds.length ∧ ∃ s' Lv' acc pre xs', Rl Z (Γ.blk p acc) s' Lv' (wipe σ vs) H' ∧ Fw Z (Γ.X Lv1) H1 ((Γ.blk p acc).X Lv') H' ∧ RepL Z ((Γ.blk p acc).X Lv') H' pre acc ∧ acc.length ≤ i ∧
        lcD vs t c f (ds.drop i) s' = .ok xs' s2 ∧ pre ++ xs' = xs ∧ (∀ i ∈ vs, ∀ x, s'[i]? = some x → x = .no) ∧ s'.length = s1.length, ⟨ds.length, by simp, Nat.zero_le _, clr vs s1, Lv1, [], [], xs, Rb, F12, RepL.nil, Nat.zero_le _, hr, rfl, fun i hi x hx => ?_, clr_len _ _⟩, ?_⟩
      · rw [clr_get, if_pos hi] at hx
        cases e : s1[i]? with
        | none => rw [e] at hx; cases hx
        | some y => rw [e] at hx; cases hx; rfl
      rintro i m H' ⟨rfl, hi, s', Lv', acc, pre, xs', R', F', rp, hacc, hlc, hpre, hcl, hlen⟩
      by_cases hlt : i < ds.length
      · have hd : ds[i]? = some ds[i] := List.getElem?_eq_getElem hlt
        rw [List.drop_eq_getElem_cons hlt] at hlc
        simp only [lcD] at hlc
        have F'' : Fw Z (Γ.X Lv1) H1 (Γ.X Lv') H' := F'.trans (Fw.refl.less fun a h => by
          rcases h with h | h
          · exact .inl (.inl h)
          · exact .inr h)
        refine .inr ⟨itr.go _ H' F' (R'.alv (fun _ _ _ h => .inl h) Gm.NT.blk) i hlt, _, fun H2 p' => ⟨ds.length - (i + 1), by omega, p'⟩, fun x H3 y => ?_⟩
        obtain ⟨sm, rx⟩ := itr.yld _ H' F' (R'.alv (fun _ _ _ h => .inl h) Gm.NT.blk) i _ hd x H3 y
        refine ⟨(p, acc), s', Lv', ds[i], R'.same sm, rx, ?_⟩
        cases et : t ds[i] s' with
        | st => rw [et] at hlc; cases hlc
        | er _ _ _ _ => rw [et] at hlc; cases hlc
        | ok u sa =>
          rw [et] at hlc
          simp only at hlc
          intro σ2 H4 Lv4 R4 F4 ⟨hl2, hk2⟩
          have hw : wipe σ2 vs = wipe σ vs := by
            rw [← wipe_wipe (σ := σ)]
            exact wipe_eq hl2 fun j hj => hk2 j fun q => hj (hks j q)
          refine ⟨hw, (p, acc), sa, Lv4, R4, ?_⟩
          cases ec : c sa with
          | st => rw [ec] at hlc; cases hlc
          | er _ _ _ _ => rw [ec] at hlc; cases hlc
          | ok b sb =>
            rw [ec] at hlc
            simp only [PD.R.bind_ok] at hlc
            rintro b' H5 Lv5 R5 F5 rfl
            have F05 : Fw Z ((Γ.blk p acc).X Lv') H' ((Γ.blk p acc).X Lv5) H5 := (Fw.same sm).trans (F4.trans F5)
            cases b with
            | false =>
              rw [if_neg Bool.false_ne_true] at hlc ⊢
              by_cases hno : noOwn vs sb = true
              case neg => rw [if_neg hno] at hlc; cases hlc
              rw [if_pos hno] at hlc
              have R6 : Rl Z (Γ.blk p acc) (clr vs sb) Lv5 (wipe σ vs) H5 := by
                rw [← hw]
                exact R5.clr hno h0
              exact ⟨rfl, hlt, clr vs sb, Lv5, acc, pre, xs', R6, F'.trans F05, rp.mono F05, by omega, hlc, hpre, fun j hj x hx => by
                rw [clr_get, if_pos hj] at hx
                cases e : sb[j]? with
                | none => rw [e] at hx; cases hx
                | some y => rw [e] at hx; cases hx; rfl, by rw [clr_len, R5.len, hl2, wipe_length]; exact R1.len.symm⟩
            | true =>
              rw [if_pos rfl] at hlc ⊢
              refine ⟨(p, acc), sb, Lv5, R5, ?_⟩
              cases ef : f sb with
              | st => rw [ef] at hlc; cases hlc
              | er _ _ _ _ => rw [ef] at hlc; cases hlc
              | ok w sc =>
                rw [ef] at hlc
                simp only [PD.R.bind_ok] at hlc
                intro y H6 Lv6 R6 F6 ry
                have F06 := F05.trans F6
                cases ew : fzW w with
                | none => rw [ew] at hlc; cases hlc
                | some z =>
                  rw [ew] at hlc
                  simp only at hlc
                  by_cases hno : noOwn vs sc = true
                  case neg => rw [if_neg hno] at hlc; cases hlc
                  rw [if_pos hno] at hlc
                  obtain ⟨_, _, _, pD⟩ := R6.pn p _ (.inr ⟨rfl, rfl⟩)
                  refine ⟨acc, pD, lim_lt (by omega), ?_⟩
                  cases er : lcD vs t c f (List.drop (i + 1) ds) (clr vs sc) with
                  | st => rw [er] at hlc; cases hlc
                  | er _ _ _ _ => rw [er] at hlc; cases hlc
                  | ok xs'' s3 =>
                    rw [er] at hlc
                    simp only [PD.R.bind_ok] at hlc
                    cases hlc
                    have tb6 : LamX.Tabs Z.T (upd H6 p (.lst (acc ++ [y]))) := fun q hq => tabs_upd pD (fun ps z => by cases z) lst_ncode (R6.tb q hq)
                    have R7 : Rl Z (Γ.blk p acc) (clr vs sc) Lv6 (wipe σ vs) H6 := by
                      rw [← hw]
                      exact R6.clr hno h0
                    have R8 := R7.grow (acc' := acc ++ [y]) npin hH0 tb6
                    have F78 : Fw Z ((Γ.blk p acc).X Lv6) H6 ((Γ.blk p (acc ++ [y])).X Lv6) (upd H6 p (.lst (acc ++ [y]))) := by
                      refine ⟨fun a o h n _ => by rw [upd_ne fun z => n (by rw [z]; exact .inl (.inr (by simp)))]; exact h, fun a ps h => ⟨ps, by rw [upd_ne fun z => by rw [z, pD] at h; cases h]; exact h⟩, fun a h => .inl h, fun _ => tb6⟩
                    refine ⟨rfl, hlt, clr vs sc, Lv6, acc ++ [y], pre ++ [z], xs'', R8, (F'.trans F06).trans F78, ((rp.mono F06).mono F78).app (RepL.one ((fz_ok ry ew).mono F78)), by simp; omega, er, by rw [List.append_assoc]; exact hpre, fun j hj x hx => by
                      rw [clr_get, if_pos hj] at hx
                      cases e : sc[j]? with
                      | none => rw [e] at hx; cases hx
                      | some y => rw [e] at hx; cases hx; rfl, by rw [clr_len, R6.len, hl2, wipe_length]; exact R1.len.symm⟩
      · have e : i = ds.length := by omega
        subst e
        rw [List.drop_length] at hlc
        simp only [lcD] at hlc
        cases hlc
        rw [List.append_nil] at hpre
        subst hpre
        obtain ⟨R9, F9⟩ := R1.rst R' F' hn hcl hlen
        refine .inl ⟨itr.stop _ H' F' (R'.alv (fun _ _ _ h => .inl h) Gm.NT.blk), po1 _ H' Lv' R9 F9 ?_⟩
        obtain ⟨q1, q2, q3, q4⟩ := R'.pn p _ (.inr ⟨rfl, rfl⟩)
        have nx : ¬ Ext (.lst acc) := fun ⟨_, z⟩ => by cases z
        have q1 := q1.resolve_right nx
        have q2 := q2.resolve_right nx
        show Rep Z (Γ.X Lv') H' (.lst pre) (.ref p)
        simp only [Rep]
        refine ⟨p, acc, rfl, fun h => ?_, q4, rp.mono (Fw.refl.less fun a h => ?_)⟩
        · rcases h with h | ⟨j, h⟩
          · exact hX0 h
          · rcases R'.lvb j p h with z | z
            · exact q2 z.2
            · exact z.2 q1
        · rcases h with h | h
          · exact .inl (.inl h)
          · exact .inr h
  · rw [if_neg hc] at po1; exact po1.elim
end
end PD

set_option linter.all false
set_option maxRecDepth 100000
/-! PD12: the comprehension's rules, globals, built-in functions. -/
namespace PD
open PySem PySem.Spec PyProof.Rows L2

section
variable {X : Cx} {Z : Zt} {Γ : Gm} {elt tg iter : Expr} {ifs : List Expr} {scope : Scope} {own : List (Str × Nat)} {t : D → S → R Unit} {ks : List Nat} {fi : S → R (List D)} {c : S → R Bool} {f : S → R W} {pos spos py : Pos} {y : Str}
theorem de_lc (hc : X.calm = true) (hN : X.N.Nodup) (hi : PI X tg iter (tI Z Γ fi)) (ok : BlkOk X.N X.env.scope scope own) (hks : ∀ k ∈ ks, k ∈ own.map (·.2)) (h0 : ((own.map (·.2)).all fun i => (Γ.bor i).isNone) = true)
    (hg : ∀ (s : Shared) (H : Hp) (C : Addr) (cl : List (Str × Addr)) (fp : List Addr) (pa : Addr × List V), PG (X.blk s H scope (compEnvC scope cl C X.env) fp) tg (tG Z (Γ.blk pa.1 pa.2) ks t))
    (ht : ∀ (s : Shared) (H : Hp) (C : Addr) (cl : List (Str × Addr)) (fp : List Addr) (pa : Addr × List V), PTs (X.blk s H scope (compEnvC scope cl C X.env) fp) ifs (tT Z (Γ.blk pa.1 pa.2) c))
    (he : ∀ (s : Shared) (H : Hp) (C : Addr) (cl : List (Str × Addr)) (fp : List Addr) (pa : Addr × List V), PE (X.blk s H scope (compEnvC scope cl C X.env) fp) elt (tE Z (Γ.blk pa.1 pa.2) f))
    (hs : ∀ x, foldedSetIterable iter X.env x = pure x := by intro _; rfl) : PE X (.ListComp elt [⟨tg, iter, ifs, 0⟩] scope pos) (tE Z Γ (eLcD (own.map (·.2)) t fi c f)) :=
  pe_imp (pe_lc hc hN hi ok (fun s H C cl fp => pg_ex (hg s H C cl fp)) (fun s H C cl fp => pts_ex (ht s H C cl fp)) (fun s H C cl fp => pe_ex (he s H C cl fp)) hs) fun _ _ _ h => lc_D hks h0 h
theorem ds_lc (i : Nat) (hc : X.calm = true) (hN : X.N.Nodup) (hy : X.N[i]? = some y) (hyl : X.env.scope.names.lookup y = some .local) (hsw : swapsWith (.ListComp elt [⟨tg, iter, ifs, 0⟩] scope pos) (some (.Name y py)) spos.line X.env = pure true) (hb : Γ.bor i = none)
    (hi : PI X tg iter (tI Z Γ fi)) (ok : BlkOk X.N X.env.scope scope own) (hks : ∀ k ∈ ks, k ∈ own.map (·.2)) (h0 : ((own.map (·.2)).all fun i => (Γ.bor i).isNone) = true)
    (hg : ∀ (s : Shared) (H : Hp) (C : Addr) (cl : List (Str × Addr)) (fp : List Addr) (pa : Addr × List V), PG (X.blk s H scope (compEnvC scope cl C X.env) fp) tg (tG Z (Γ.blk pa.1 pa.2) ks t))
    (ht : ∀ (s : Shared) (H : Hp) (C : Addr) (cl : List (Str × Addr)) (fp : List Addr) (pa : Addr × List V), PTs (X.blk s H scope (compEnvC scope cl C X.env) fp) ifs (tT Z (Γ.blk pa.1 pa.2) c))
    (he : ∀ (s : Shared) (H : Hp) (C : Addr) (cl : List (Str × Addr)) (fp : List Addr) (pa : Addr × List V), PE (X.blk s H scope (compEnvC scope cl C X.env) fp) elt (tE Z (Γ.blk pa.1 pa.2) f))
    (hs : ∀ x, foldedSetIterable iter X.env x = pure x := by intro _; rfl) : PS X (.Assign [.Name y py] (.ListComp elt [⟨tg, iter, ifs, 0⟩] scope pos) spos) (tS Z Γ (sAsg (gN i) (eLcD (own.map (·.2)) t fi c f))) := by
  refine ps_imp (ps_setLc hc hN hy hyl hsw hi ok (fun s H C cl fp => pg_ex (hg s H C cl fp)) (fun s H C cl fp => pts_ex (ht s H C cl fp)) (fun s H C cl fp => pe_ex (he s H C cl fp)) hs) fun Dn σ H h => ?_
  obtain ⟨s, Lv, R0, po⟩ := h
  refine lc_D hks h0 ⟨s, Lv, R0, po.bind.mono fun v H1 ⟨w, s1, Lv1, _, R1, F1, r1, po1⟩ => ?_⟩
  cases e1 : fzW w with
  | none => rw [e1] at po1; exact po1.elim
  | some d =>
    rw [e1] at po1
    simp only [gN] at po1
    by_cases hi : i < s1.length
    · rw [if_pos hi] at po1
      obtain ⟨R2, F2⟩ := R1.setD hi hb (fz_ok r1 e1)
      exact po1.nx R2 F2
    · rw [if_neg hi] at po1; exact po1.elim
/-- a module's constant -/
theorem de_g {x : Str} {v : V} {u : Value} {d : D} (hg : Gl X x) (hm : X.mg x = some u) (r : RelV v u) (hr : ∀ Y H, Rep Z Y H d v) (hd : (x == ("__debug__" : Str)) = false := by decide) : PE X (.Name x pos) (tE Z Γ (eC d)) := de_c (pe_glob hg hm r hd) hr
theorem de_gint {x : Str} {i : Int} {tk : Tok} (hg : Gl X x) (hm : X.mg x = some (.int i tk)) (hd : (x == ("__debug__" : Str)) = false := by decide) : PE X (.Name x pos) (tE Z Γ (eC (.int i))) := de_g (v := .int i) hg hm ⟨tk, rfl⟩ (fun _ _ => rep_int) hd
theorem de_gstr {x : Str} {i : Str} {tk : Tok} (hg : Gl X x) (hm : X.mg x = some (.str i tk)) (hd : (x == ("__debug__" : Str)) = false := by decide) : PE X (.Name x pos) (tE Z Γ (eC (.str i))) := de_g (v := .str i) hg hm ⟨tk, rfl⟩ (fun _ _ => rep_str) hd
end

/-! ### built-in functions -/
def gLen : List D → Option D
  | [.lst ds] => some (.int ds.length)
  | [.tup ds] => some (.int ds.length)
  | [.str z] => if z.length ≤ lim then some (.int z.length) else none
  | [.scr xs] => some (.int xs.length)
  | _ => none
def gAbs : List D → Option D
  | [.int i] => some (.int (if i < 0 then -i else i))
  | _ => none
def gMax : List D → Option D
  | [.int i, .int j] => some (.int (if j > i then j else i))
  | _ => none
def gMin : List D → Option D
  | [.int i, .int j] => some (.int (if j < i then j else i))
  | _ => none
def gInt : List D → Option D
  | [.int i] => some (.int i)
  | [.bl b] => some (.int (if b then 1 else 0))
  | _ => none
def gList : List D → Option D
  | [.lst ds] => some (.lst ds)
  | [.tup ds] => some (.lst ds)
  | _ => none
def gTuple : List D → Option D
  | [.lst ds] => some (.tup ds)
  | [.tup ds] => some (.tup ds)
  | _ => none
def gSum : List D → Option D
  | [.lst ds] => (allInt ds).map fun ns => .int ns.sum
  | _ => none
def allBl : List D → Option (List Bool)
  | [] => some []
  | .bl i :: ds => (allBl ds).map (i :: ·)
  | _ => none
def gAll : List D → Option D
  | [.lst ds] => (allBl ds).map fun bs => .bl (bs.all id)
  | _ => none
def gAny : List D → Option D
  | [.lst ds] => (allBl ds).map fun bs => .bl (bs.any id)
  | _ => none
section
variable {X : Cx} {Z : Zt} {Y : Addr → Prop} {H : Hp}
theorem allBl_map : ∀ {ds : List D} {ns : List Bool} {vs : List V}, RepL Z Y H ds vs → allBl ds = some ns → vs = ns.map V.bl
  | [], ns, vs, h, e => by simp only [RepL] at h; simp only [allBl] at e; cases e; exact h
  | .bl i :: ds, ns, vs, h, e => by
    simp only [RepL] at h
    obtain ⟨v, vr, rfl, r, h⟩ := h
    simp only [Rep] at r
    simp only [allBl] at e
    cases q : allBl ds with
    | none => rw [q] at e; cases e
    | some ms => rw [q] at e; cases e; rw [r, allBl_map h q]; rfl
  | .non :: _, _, _, _, e => by simp only [allBl] at e; cases e
  | .int _ :: _, _, _, _, e => by simp only [allBl] at e; cases e
  | .str _ :: _, _, _, _, e => by simp only [allBl] at e; cases e
  | .tup _ :: _, _, _, _, e => by simp only [allBl] at e; cases e
  | .lst _ :: _, _, _, _, e => by simp only [allBl] at e; cases e
  | .dic _ _ :: _, _, _, _, e => by simp only [allBl] at e; cases e
  | .dit _ _ :: _, _, _, _, e => by simp only [allBl] at e; cases e
  | .ins _ _ _ :: _, _, _, _, e => by simp only [allBl] at e; cases e
  | .fn _ :: _, _, _, _, e => by simp only [allBl] at e; cases e
  | .scr _ :: _, _, _, _, e => by simp only [allBl] at e; cases e
theorem vw_scr {xs : List Int} {v : V} (h : Vw Z Y H (.scr xs) v) : ∃ a, v = .ref a ∧ SqL Z.K H a (xs.map V.int) := by
  rcases h with h | ⟨o, L, q, _⟩
  · simp only [Rep] at h
    obtain ⟨a, e, t⟩ := h
    exact ⟨a, e, t.sq⟩
  · cases o <;> cases q
theorem od_len (hK : X.K = Z.K) : CallR X (.builtin "len") (rD Z gLen) := by
  intro pins s σ H xs us Q I r h
  obtain ⟨Y, ds, d, hx, hv, hg, q⟩ := h
  unfold gLen at hg
  split at hg
  · rename_i ls
    cases hg
    obtain ⟨v, vr, rfl, h1, h2⟩ := hv
    have h2 : vr = [] := h2
    subst h2
    obtain ⟨a, vs, rfl, ha, rl⟩ := vw_lst h1
    exact call_len pins s σ H _ us Q I r ⟨.ref a, vs.length, rfl, .inl ⟨vs, .of ha, rfl⟩, by rw [← rl.length]; exact q _ H (Same.refl H) rep_int⟩
  · rename_i ls
    cases hg
    obtain ⟨v, vr, rfl, h1, h2⟩ := hv
    have h2 : vr = [] := h2
    subst h2
    obtain ⟨a, vs, rfl, ha, rl⟩ := vw_tup h1
    exact call_len pins s σ H _ us Q I r ⟨.ref a, vs.length, rfl, .inr ⟨vs, by rw [hK]; exact ha, rfl⟩, by rw [← rl.length]; exact q _ H (Same.refl H) rep_int⟩
  · rename_i z
    split at hg
    · rename_i hz
      cases hg
      obtain ⟨v, vr, rfl, h1, h2⟩ := hv
      have h2 : vr = [] := h2
      subst h2
      cases vw_str h1
      exact call_len pins s σ H _ us Q I r ⟨.str z, z.length, rfl, ⟨lim_line hz, rfl⟩, q _ H (Same.refl H) rep_int⟩
    · cases hg
  · rename_i ls
    cases hg
    obtain ⟨v, vr, rfl, h1, h2⟩ := hv
    have h2 : vr = [] := h2
    subst h2
    obtain ⟨a, rfl, ha⟩ := vw_scr h1
    exact call_len pins s σ H _ us Q I r ⟨.ref a, _, rfl, .inl ⟨_, by rw [hK]; exact ha, rfl⟩, by rw [List.length_map]; exact q _ H (Same.refl H) rep_int⟩
  · cases hg
theorem vwl1 {ds : List D} {d : D} {xs : List V} (h : VwL Z Y H ds xs) (e : ds = [d]) : ∃ v, xs = [v] ∧ Vw Z Y H d v := by
  subst e
  obtain ⟨v, vr, rfl, h1, h2⟩ := h
  have h2 : vr = [] := h2
  subst h2
  exact ⟨v, rfl, h1⟩
theorem vwl2 {ds : List D} {d e : D} {xs : List V} (h : VwL Z Y H ds xs) (q : ds = [d, e]) : ∃ v u, xs = [v, u] ∧ Vw Z Y H d v ∧ Vw Z Y H e u := by
  subst q
  obtain ⟨v, vr, rfl, h1, h2⟩ := h
  obtain ⟨u, rfl, h3⟩ := vwl1 h2 rfl
  exact ⟨v, u, rfl, h1, h3⟩
theorem od_abs : CallR X (.builtin "abs") (rD Z gAbs) := by
  intro pins s σ H xs us Q I r h
  obtain ⟨Y, ds, d, hx, hv, hg, q⟩ := h
  unfold gAbs at hg
  split at hg
  · cases hg
    obtain ⟨v, rfl, h1⟩ := vwl1 hv rfl
    exact call_abs pins s σ H _ us Q I r ⟨_, by rw [vw_int h1], q _ H (Same.refl H) rep_int⟩
  · cases hg
theorem od_max (hc : X.calm = true) : CallR X (.builtin "max") (rD Z gMax) := by
  intro pins s σ H xs us Q I r h
  obtain ⟨Y, ds, d, hx, hv, hg, q⟩ := h
  unfold gMax at hg
  split at hg
  · cases hg
    obtain ⟨v, u, rfl, h1, h2⟩ := vwl2 hv rfl
    exact call_max2 hc pins s σ H _ us Q I r ⟨_, _, by rw [vw_int h1, vw_int h2], q _ H (Same.refl H) rep_int⟩
  · cases hg
theorem od_min (hc : X.calm = true) : CallR X (.builtin "min") (rD Z gMin) := by
  intro pins s σ H xs us Q I r h
  obtain ⟨Y, ds, d, hx, hv, hg, q⟩ := h
  unfold gMin at hg
  split at hg
  · cases hg
    obtain ⟨v, u, rfl, h1, h2⟩ := vwl2 hv rfl
    exact call_min2 hc pins s σ H _ us Q I r ⟨_, _, by rw [vw_int h1, vw_int h2], q _ H (Same.refl H) rep_int⟩
  · cases hg
theorem od_int : CallR X (.type "int") (rD Z gInt) := by
  intro pins s σ H xs us Q I r h
  obtain ⟨Y, ds, d, hx, hv, hg, q⟩ := h
  unfold gInt at hg
  split at hg
  · cases hg
    obtain ⟨v, rfl, h1⟩ := vwl1 hv rfl
    exact call_int1 pins s σ H _ us Q I r (.inl ⟨_, by rw [vw_int h1], q _ H (Same.refl H) rep_int⟩)
  · cases hg
    obtain ⟨v, rfl, h1⟩ := vwl1 hv rfl
    exact call_int1 pins s σ H _ us Q I r (.inr ⟨_, by rw [vw_bl h1], q _ H (Same.refl H) rep_int⟩)
  · cases hg
theorem od_list (hK : X.K = Z.K) : CallR X (.type "list") (rD Z gList) := by
  intro pins s σ H xs us Q I r h
  obtain ⟨Y, ds, d, hx, hv, hg, q⟩ := h
  unfold gList at hg
  split at hg
  · cases hg
    obtain ⟨v, rfl, h1⟩ := vwl1 hv rfl
    obtain ⟨a, vs, rfl, ha, rl⟩ := vw_lst h1
    exact call_list_of pins s σ H _ us Q I r ⟨a, vs, rfl, .inl (.of ha), fun p np => q _ _ (same_new np) (rep_lst hx np rl)⟩
  · cases hg
    obtain ⟨v, rfl, h1⟩ := vwl1 hv rfl
    obtain ⟨a, vs, rfl, ha, rl⟩ := vw_tup h1
    exact call_list_of pins s σ H _ us Q I r ⟨a, vs, rfl, .inr (by rw [hK]; exact ha), fun p np => q _ _ (same_new np) (rep_lst hx np rl)⟩
  · cases hg
theorem od_tuple (hK : X.K = Z.K) : CallR X (.type "tuple") (rD Z gTuple) := by
  intro pins s σ H xs us Q I r h
  obtain ⟨Y, ds, d, hx, hv, hg, q⟩ := h
  unfold gTuple at hg
  split at hg
  · cases hg
    obtain ⟨v, rfl, h1⟩ := vwl1 hv rfl
    obtain ⟨a, vs, rfl, ha, rl⟩ := vw_lst h1
    exact call_tuple_of pins s σ H _ us Q I r ⟨a, vs, rfl, .inl ⟨.of ha, fun p np => q _ _ (same_new np) (rep_tup hx np rl)⟩⟩
  · cases hg
    obtain ⟨v, rfl, h1⟩ := vwl1 hv rfl
    have t := rep_of_tup h1
    obtain ⟨a, vs, rfl, ha, rl⟩ := vw_tup h1
    exact call_tuple_of pins s σ H _ us Q I r ⟨a, vs, rfl, .inr ⟨by rw [hK]; exact ha, q _ H (Same.refl H) t⟩⟩
  · cases hg
theorem od_sum (hc : X.calm = true) : CallR X (.builtin "sum") (rD Z gSum) := by
  intro pins s σ H xs us Q I r h
  obtain ⟨Y, ds, d, hx, hv, hg, q⟩ := h
  unfold gSum at hg
  split at hg
  · rename_i ls
    obtain ⟨v, rfl, h1⟩ := vwl1 hv rfl
    obtain ⟨a, vs, rfl, ha, rl⟩ := vw_lst h1
    cases e : allInt ls with
    | none => rw [e] at hg; cases hg
    | some ns =>
      rw [e] at hg
      cases hg
      rw [allInt_map rl e] at ha
      exact cr_sum hc pins s σ H _ us Q I r ⟨a, ns, rfl, .of ha, q _ H (Same.refl H) rep_int⟩
  · cases hg
theorem od_all (hc : X.calm = true) : CallR X (.builtin "all") (rD Z gAll) := by
  intro pins s σ H xs us Q I r h
  obtain ⟨Y, ds, d, hx, hv, hg, q⟩ := h
  unfold gAll at hg
  split at hg
  · rename_i ls
    obtain ⟨v, rfl, h1⟩ := vwl1 hv rfl
    obtain ⟨a, vs, rfl, ha, rl⟩ := vw_lst h1
    cases e : allBl ls with
    | none => rw [e] at hg; cases hg
    | some ns =>
      rw [e] at hg
      cases hg
      rw [allBl_map rl e] at ha
      exact cr_all hc pins s σ H _ us Q I r ⟨a, ns, rfl, .of ha, q _ H (Same.refl H) rep_bl⟩
  · cases hg
theorem od_any (hc : X.calm = true) : CallR X (.builtin "any") (rD Z gAny) := by
  intro pins s σ H xs us Q I r h
  obtain ⟨Y, ds, d, hx, hv, hg, q⟩ := h
  unfold gAny at hg
  split at hg
  · rename_i ls
    obtain ⟨v, rfl, h1⟩ := vwl1 hv rfl
    obtain ⟨a, vs, rfl, ha, rl⟩ := vw_lst h1
    cases e : allBl ls with
    | none => rw [e] at hg; cases hg
    | some ns =>
      rw [e] at hg
      cases hg
      rw [allBl_map rl e] at ha
      exact cr_any hc pins s σ H _ us Q I r ⟨a, ns, rfl, .of ha, q _ H (Same.refl H) rep_bl⟩
  · cases hg
end
section
variable {X : Cx} {Z : Zt} {Γ : Gm} {a b c e : Expr} {es : List Expr} {pos p : Pos} {x : Str} {fa fb fc : S → R W} {fs : S → R (List W)}
theorem de_callT {n : String} {g : List D → Option D} (hc : CallR X (.type n) (rD Z g)) (hg : Gl X x) (hm : X.mg x = none) (hv : bootBuiltins x = some (.type n)) (ha : PA X (e :: es) (tA Z Γ fs)) (hn : x ≠ "__name__" := by decide) (hdb : (x == ("__debug__" : Str)) = false := by decide)
    (he : starEach (e :: es) X.env = (false, eval e X.env) :: starEach es X.env := by rfl) (hpl : (backTo pos (starEach es X.env)).any (·.1) = false := by rfl) : PE X (.Call (.Name x p) (e :: es) [] pos) (tE Z Γ (eApp g fs)) := by
  refine pe_imp (pe_callTy hc hg hm hv ha hn hdb he hpl) fun σ H Q h => ?_
  obtain ⟨s, Lv, R0, po⟩ := h
  exact ⟨s, Lv, R0, po.bind.mono fun vs H1 ⟨ws, s1, Lv1, _, R1, F1, r1, po1⟩ => fin_D R1 r1 po1⟩
/-- a slice -/
def oPart (f : Option (S → R W)) : S → R (Option Int) := fun s => match f with
  | none => .ok none s
  | some f => (f s).bind fun w s1 => match w with
    | .d (.int i) => .ok (some i) s1
    | _ => .st
def eSl (fe : S → R W) (lo hi : Option (S → R W)) : S → R W := fun s => (fe s).bind fun w s1 => (oPart lo s1).bind fun l s2 => (oPart hi s2).bind fun h s3 => ofO s3 ((rdW s3 w).bind fun d => (gSl l h d).map W.d)
def tO (Z : Zt) (Γ : Gm) (f : S → R (Option Int)) : TO := fun σ H Q => ∃ s Lv, Rl Z Γ s Lv σ H ∧ Po Z Γ (fun _ _ _ a b => a = b) (f s) Lv σ H Q
theorem do_none : PO X none (tO Z Γ (oPart none)) := ⟨fun pins s σ H Q I h => by
  obtain ⟨s', Lv, R0, po⟩ := h
  exact po_none.run pins s σ H Q I (po.ok R0 rfl)⟩
theorem do_some (h : PE X e (tE Z Γ fa)) : PO X (some e) (tO Z Γ (oPart (some fa))) := ⟨fun pins s σ H Q I h' => by
  obtain ⟨s', Lv, R0, po⟩ := h'
  refine (po_some h).run pins s σ H Q I ⟨s', Lv, R0, po.bind.mono fun v H1 ⟨w, s1, Lv1, _, R1, F1, r1, po1⟩ => ?_⟩
  cases w with
  | p i => exact po1.elim
  | d x =>
    cases x with
    | int i =>
      have r1 : Rep Z (Γ.X Lv1) H1 (.int i) v := r1
      simp only [Rep] at r1
      exact ⟨i, r1, po1.ok R1 rfl⟩
    | _ => exact po1.elim⟩
theorem de_sl {lo hi : Option Expr} {fl fh : Option (S → R W)} {p2 : Pos} (hK : X.K = Z.K) (he : PE X e (tE Z Γ fa)) (hl : PO X lo (tO Z Γ (oPart fl))) (hh : PO X hi (tO Z Γ (oPart fh))) : PE X (.Subscript e (.Slice lo hi none p2) pos) (tE Z Γ (eSl fa fl fh)) := by
  refine pe_imp (pe_slice (od_sl hK) he hl hh) fun σ H Q h => ?_
  obtain ⟨s, Lv, R0, po⟩ := h
  refine ⟨s, Lv, R0, po.bind.mono fun v H1 ⟨w, s1, Lv1, _, R1, F1, r1, po1⟩ => ⟨s1, Lv1, R1, po1.bind.mono fun l' H2 ⟨l, s2, Lv2, _, R2, F2, r2, po2⟩ => ⟨s2, Lv2, R2, po2.bind.mono fun h' H3 ⟨h, s3, Lv3, _, R3, F3, r3, po3⟩ => ?_⟩⟩⟩
  subst r2 r3
  cases e1 : rdW s3 w with
  | none => rw [e1] at po3; exact po3.elim
  | some d =>
    rw [e1] at po3
    simp only [Option.bind_some] at po3
    cases e2 : gSl l h d with
    | none => rw [e2] at po3; exact po3.elim
    | some d' =>
      rw [e2] at po3
      exact ⟨Γ.X Lv3, d, d', fun a h => R3.xs h, rd_ok R3 ((r1.mono F2).mono F3) e1, e2, fun v H' sm rp => po3.ok' R3 sm rp⟩
/-- a <= b <= c -/
def eChain (g g' : List D → Option D) (fa fb fc : S → R W) : S → R W := fun s => (fa s).bind fun w s1 => (fb s1).bind fun u s2 => match (rdL s2 [w, u]).bind g with
  | some (.bl true) => (fc s2).bind fun z s3 => ofO s3 ((rdL s3 [u, z]).bind fun ds => (g' ds).map W.d)
  | some (.bl false) => .ok (.d (.bl false)) s2
  | _ => .st
theorem chain_D {g g' : List D → Option D} {σ : L2.St} {H : Hp} {Q : VK} (h : tE Z Γ (eChain g g' fa fb fc) σ H Q) : tChain (rD2 Z g) (rD2 Z g') (tE Z Γ fa) (tE Z Γ fb) (tE Z Γ fc) σ H Q := by
  obtain ⟨s, Lv, R0, po⟩ := h
  refine ⟨s, Lv, R0, po.bind.mono fun v H1 ⟨w, s1, Lv1, _, R1, F1, r1, po1⟩ => ⟨s1, Lv1, R1, po1.bind.mono fun v2 H2 ⟨u, s2, Lv2, _, R2, F2, r2, po2⟩ => ?_⟩⟩
  cases e1 : rdL s2 [w, u] with
  | none => rw [e1] at po2; exact po2.elim
  | some ds =>
    rw [e1] at po2
    simp only [Option.bind_some] at po2
    have vl : VwL Z (Γ.X Lv2) H2 ds [v, v2] := rdL_ok (ws := [w, u]) R2 ⟨v, [v2], rfl, r1.mono F2, v2, [], rfl, r2, rfl⟩ e1
    cases e2 : g ds with
    | none => rw [e2] at po2; exact po2.elim
    | some d =>
      rw [e2] at po2
      cases d with
      | bl k =>
        refine ⟨Γ.X Lv2, ds, _, fun a h => R2.xs h, vl, e2, fun z H' sm rp => ?_⟩
        simp only [Rep] at rp
        refine ⟨k, rp, ?_⟩
        cases k with
        | false =>
          rw [if_neg Bool.false_ne_true]
          exact po2.ok' R2 sm (rep_bl (Z := Z) (Y := Γ.X Lv2) (H := H'))
        | true =>
          rw [if_pos rfl]
          have po3 : Po Z Γ (WRep Z) ((fc s2).bind fun z s3 => ofO s3 ((rdL s3 [u, z]).bind fun ds => (g' ds).map W.d)) Lv2 σ H' Q := by
            simp only at po2
            revert po2
            generalize ((fc s2).bind fun z s3 => ofO s3 ((rdL s3 [u, z]).bind fun ds => (g' ds).map W.d)) = y
            intro po2
            cases y with
            | ok a s4 => exact fun v' H4 Lv4 R4 F4 r4 => po2 v' H4 Lv4 R4 ((Fw.same sm).trans F4) r4
            | er _ _ _ s4 => exact fun cls d H4 Lv4 R4 F4 r4 => po2 cls d H4 Lv4 R4 ((Fw.same sm).trans F4) r4
            | st => exact po2
          refine ⟨s2, Lv2, R2.same sm, po3.bind.mono fun v3 H3 ⟨z3, s3, Lv3, _, R3, F3, r3, po4⟩ => ?_⟩
          exact fin_D (ws := [u, z3]) R3 ⟨v2, [v3], rfl, (r2.mono (Fw.same sm)).mono F3, v3, [], rfl, r3, rfl⟩ po4
      | _ => exact po2.elim
theorem de_chain {op op' : CmpOp} {g g' : List D → Option D} (ho : OpR X (compareOp op) (rD2 Z g)) (ho' : OpR X (compareOp op') (rD2 Z g')) (ha : PE X a (tE Z Γ fa)) (hb : PE X b (tE Z Γ fb)) (hc : PE X c (tE Z Γ fc))
    (hm : lastMarks [op, op'] [b, c] = false := by rfl) : PE X (.Compare a [op, op'] [b, c] pos) (tE Z Γ (eChain g g' fa fb fc)) := pe_imp (pe_chain ho ho' ha hb hc (hm := hm)) fun _ _ _ h => chain_D h
/-- a comparison as a test -/
theorem test_D {σ : L2.St} {H : Hp} {Q : Bool → Hp → Prop} {u : TE} (hu : ∀ σ H Q, tE Z Γ fa σ H Q → u σ H Q) (h : tT Z Γ (cVal fa) σ H Q) (hb : ∀ s w s1, fa s = .ok w s1 → (∃ k, w = .d (.bl k)) ∨ (rdW s1 w).bind truD = none) : u σ H fun x H1 => ∃ k, x = .bl k ∧ Q k H1 := by
  obtain ⟨s, Lv, R0, po⟩ := h
  refine hu _ _ _ ⟨s, Lv, R0, po.bind.mono fun v H1 ⟨w, s1, Lv1, e0, R1, F1, r1, po1⟩ => ?_⟩
  rcases hb _ _ _ e0 with ⟨k, rfl⟩ | q
  · have r1 : Rep Z (Γ.X Lv1) H1 (.bl k) v := r1
    simp only [Rep] at r1
    exact ⟨k, r1, po1.ok R1 rfl⟩
  · rw [q] at po1; exact po1.elim
/-- whether what a comparison gives is a bool (or nothing) -/
def BlOnly (g : List D → Option D) : Prop := ∀ ds d, g ds = some d → ∃ k, d = .bl k
theorem bin_bl {g : List D → Option D} (hg : BlOnly g) (s : S) (w : W) (s1 : S) (h : eBin g fa fb s = .ok w s1) : ∃ k, w = .d (.bl k) := by
  unfold eBin at h
  cases e1 : fa s with
  | st => rw [e1] at h; cases h
  | er _ _ _ _ => rw [e1] at h; cases h
  | ok w1 s2 =>
    rw [e1] at h
    simp only [PD.R.bind_ok] at h
    cases e2 : fb s2 with
    | st => rw [e2] at h; cases h
    | er _ _ _ _ => rw [e2] at h; cases h
    | ok w2 s3 =>
      rw [e2] at h
      simp only [PD.R.bind_ok] at h
      cases e3 : rdL s3 [w1, w2] with
      | none => rw [e3] at h; cases h
      | some ds =>
        rw [e3] at h
        simp only [Option.bind_some] at h
        cases e4 : g ds with
        | none => rw [e4] at h; cases h
        | some d =>
          rw [e4] at h
          obtain ⟨k, rfl⟩ := hg ds d e4
          cases h
          exact ⟨k, rfl⟩
theorem dt_cmp {op : CmpOp} {g : List D → Option D} (hg : BlOnly g) (ho : OpR X (compareOp op) (rD2 Z g)) (ha : PE X a (tE Z Γ fa)) (hb : PE X b (tE Z Γ fb)) (hm : behindInMarks op b = false := by first | exact nomark _ | rfl) : PT X (.Compare a [op] [b] pos) (tT Z Γ (cVal (eBin g fa fb))) :=
  pt_imp (pt_cmpR ho ha hb hm) fun σ H Q h => test_D (fa := eBin g fa fb) (fun _ _ _ q => bin_D q) h fun s w s1 e => .inl (bin_bl hg s w s1 e)
theorem chain_bl {g g' : List D → Option D} (hg : BlOnly g') (s : S) (w : W) (s1 : S) (h : eChain g g' fa fb fc s = .ok w s1) : ∃ k, w = .d (.bl k) := by
  unfold eChain at h
  cases e1 : fa s with
  | st => rw [e1] at h; cases h
  | er _ _ _ _ => rw [e1] at h; cases h
  | ok w1 s2 =>
    rw [e1] at h
    simp only [PD.R.bind_ok] at h
    cases e2 : fb s2 with
    | st => rw [e2] at h; cases h
    | er _ _ _ _ => rw [e2] at h; cases h
    | ok w2 s3 =>
      rw [e2] at h
      simp only [PD.R.bind_ok] at h
      split at h
      · cases e3 : fc s3 with
        | st => rw [e3] at h; cases h
        | er _ _ _ _ => rw [e3] at h; cases h
        | ok w3 s4 =>
          rw [e3] at h
          simp only [PD.R.bind_ok] at h
          cases e4 : rdL s4 [w2, w3] with
          | none => rw [e4] at h; cases h
          | some ds =>
            rw [e4] at h
            simp only [Option.bind_some] at h
            cases e5 : g' ds with
            | none => rw [e5] at h; cases h
            | some d =>
              rw [e5] at h
              obtain ⟨k, rfl⟩ := hg ds d e5
              cases h
              exact ⟨k, rfl⟩
      · cases h; exact ⟨false, rfl⟩
      · cases h
theorem dt_chain {op op' : CmpOp} {g g' : List D → Option D} (hg : BlOnly g') (ho : OpR X (compareOp op) (rD2 Z g)) (ho' : OpR X (compareOp op') (rD2 Z g')) (ha : PE X a (tE Z Γ fa)) (hb : PE X b (tE Z Γ fb)) (hc : PE X c (tE Z Γ fc))
    (hm : lastMarks [op, op'] [b, c] = false := by rfl) : PT X (.Compare a [op, op'] [b, c] pos) (tT Z Γ (cVal (eChain g g' fa fb fc))) :=
  pt_imp (pt_chain ho ho' ha hb hc (hm := hm)) fun σ H Q h => test_D (fa := eChain g g' fa fb fc) (fun _ _ _ q => chain_D q) h fun s w s1 e => .inl (chain_bl hg s w s1 e)
end
theorem bl_le : BlOnly gLe := fun ds d h => by
  unfold gLe at h
  split at h
  · cases h; exact ⟨_, rfl⟩
  · cases h
theorem bl_gt : BlOnly gGt := fun ds d h => by
  unfold gGt at h
  split at h
  · cases h; exact ⟨_, rfl⟩
  · cases h
theorem bl_ge : BlOnly gGe := fun ds d h => by
  unfold gGe at h
  split at h
  · cases h; exact ⟨_, rfl⟩
  · cases h
theorem bl_isN : BlOnly gIsN := fun ds d h => by
  unfold gIsN at h
  split at h
  · cases h; exact ⟨_, rfl⟩
  · cases h
theorem bl_notN : BlOnly gNotN := fun ds d h => by
  unfold gNotN at h
  split at h
  · cases h; exact ⟨_, rfl⟩
  · cases h
theorem bl_isB : BlOnly gIsB := fun ds d h => by
  unfold gIsB at h
  split at h
  · cases h; exact ⟨_, rfl⟩
  · cases h
theorem bl_notB : BlOnly gNotB := fun ds d h => by
  unfold gNotB at h
  split at h
  · cases h; exact ⟨_, rfl⟩
  · cases h
theorem bl_lt : BlOnly gLt := fun ds d h => by
  unfold gLt at h
  split at h
  · rename_i a b
    cases e : ord2 a b with
    | none => rw [e] at h; cases h
    | some pq => rw [e] at h; cases h; exact ⟨_, rfl⟩
  · cases h
theorem bl_eq : BlOnly gEq := fun ds d h => by
  unfold gEq at h
  split at h
  · rename_i a b
    cases e : dok a with
    | none => rw [e] at h; cases h
    | some p =>
      cases e2 : dok b with
      | none => rw [e, e2] at h; cases h
      | some q => rw [e, e2] at h; cases h; exact ⟨_, rfl⟩
  · cases h
theorem bl_ne : BlOnly gNe := fun ds d h => by
  unfold gNe at h
  split at h
  · rename_i a b
    cases e : dok a with
    | none => rw [e] at h; cases h
    | some p =>
      cases e2 : dok b with
      | none => rw [e, e2] at h; cases h
      | some q => rw [e, e2] at h; cases h; exact ⟨_, rfl⟩
  · cases h
theorem bl_in : BlOnly gIn := fun ds d h => by
  unfold gIn at h
  split at h
  · cases h; exact ⟨_, rfl⟩
  · rename_i a b
    cases e : dok a with
    | none => rw [e] at h; cases h
    | some p =>
      cases e2 : dok (.lst b) with
      | none => rw [e, e2] at h; cases h
      | some q =>
        rw [e, e2] at h
        simp only [Option.bind_some] at h
        split at h
        · cases h; exact ⟨_, rfl⟩
        · cases h
  · rename_i a b
    cases e : dok a with
    | none => rw [e] at h; cases h
    | some p =>
      cases e2 : dok (.tup b) with
      | none => rw [e, e2] at h; cases h
      | some q =>
        rw [e, e2] at h
        simp only [Option.bind_some] at h
        split at h
        · cases h; exact ⟨_, rfl⟩
        · cases h
  · cases h
theorem bl_notIn : BlOnly gNotIn := fun ds d h => by
  unfold gNotIn at h
  split at h
  · cases h; exact ⟨_, rfl⟩
  · rename_i a b
    cases e : dok a with
    | none => rw [e] at h; cases h
    | some p =>
      cases e2 : dok (.lst b) with
      | none => rw [e, e2] at h; cases h
      | some q =>
        rw [e, e2] at h
        simp only [Option.bind_some] at h
        split at h
        · cases h; exact ⟨_, rfl⟩
        · cases h
  · rename_i a b
    cases e : dok a with
    | none => rw [e] at h; cases h
    | some p =>
      cases e2 : dok (.tup b) with
      | none => rw [e, e2] at h; cases h
      | some q =>
        rw [e, e2] at h
        simp only [Option.bind_some] at h
        split at h
        · cases h; exact ⟨_, rfl⟩
        · cases h
  · cases h
end PD

set_option linter.all false
set_option maxRecDepth 100000
/-! PD13: enumerate and zip over lists and tuples. -/
namespace PD
open PySem PySem.Spec PyProof.Rows L2

set_option maxHeartbeats 1000000 in
/-- enumerate's own making over anything that begins -/
theorem enumMade {v : Value} {o : Obj} {Hs : Heap → Prop} (B : Begins v o Hs) :
    Meets (Builtin.«enumerate.__new__» ⟨[.type "enumerate", v], []⟩) (fun _ R s => Hs s.heap ∧
      R (.ok (.ret (.ref (s.heap.push o).objs.size))) { s with heap := (s.heap.push o).push { cls := .type "enumerate", data := .fields #[.none, .bool false, .ref s.heap.objs.size, rawInt 0, .none, .none] } }) :=
  .of_wp fun prog w A R s h => by
    obtain ⟨hp, g, d, tk, os⟩ := s
    obtain ⟨h1, h⟩ := h
    have hsub := sub_enumerate
    have q1 : ∀ {A' : Around} {E : Value → Shared → Prop} {Q : Value → Shared → Prop}, Q (.ref hp.objs.size) ⟨hp.push o, g, d, tk, os⟩ → wpAny (model prog w) A' (pyIter v) Q E ⟨hp, g, d, tk, os⟩ := fun q => B.iter prog w _ _ ⟨hp, g, d, tk, os⟩ _ h1 q
    wp_walk using q1
    first
      | exact ⟨_, rfl, h⟩
      | (refine wpAny_stack_any fun st => wpAny_pure ?_
         split
         · rename_i c _ _ _ _ _
           cases (c == Value.type "enumerate") <;> (wp_walk using q1; exact ⟨_, rfl, h⟩)
         · wp_walk using q1
           exact ⟨_, rfl, h⟩)
section
variable {prog : Program} {w : World} {A : Around} {E : Value → Shared → Prop} {s : Shared}
/-- enumerate(t), t a tuple -/
theorem call_enumT {t : Addr} {items : Array Value} {Q : Value → Shared → Prop} (hT : s.heap.IsTuple t items)
    (h : ∀ h', IsEnum h' (s.heap.objs.size + 1) s.heap.objs.size 0 .none → h'.IsTupleIter s.heap.objs.size t 0 → (∀ b o, s.heap.get? b = some o → h'.get? b = some o) → Q (.ref (s.heap.objs.size + 1)) { s with heap := h' }) :
    wpAny (model prog w) A (call (.type "enumerate") [.ref t]) Q E s := by
  refine callType_new F.called_enumerate (by decide) (F.typeCall_enumerate_1 _) (F.newCall_enumerate_1 _) (fun obj => F.args_object_init_2 obj _) F.entry_enumerate_new (enumMade (begins_tuple t items)) ⟨hT, ?_⟩
  have hz : (s.heap.push { cls := .type "tuple_iterator", data := .fields #[.ref t, .int 0 0] }).objs.size = s.heap.objs.size + 1 := Heap.size_push ..
  show _ ∧ _
  rw [hz]
  have he : IsEnum ((s.heap.push { cls := .type "tuple_iterator", data := .fields #[.ref t, .int 0 0] }).push { cls := .type "enumerate", data := .fields #[.none, .bool false, .ref s.heap.objs.size, rawInt 0, .none, .none] }) (s.heap.objs.size + 1) s.heap.objs.size 0 .none := by
    have q := Heap.get?_push_size (s.heap.push { cls := .type "tuple_iterator", data := .fields #[.ref t, .int 0 0] }) (o := { cls := .type "enumerate", data := .fields #[.none, .bool false, .ref s.heap.objs.size, rawInt 0, .none, .none] }) rfl
    rw [hz] at q
    exact q
  exact ⟨⟨_, he, rfl⟩, h _ he ⟨_, Heap.get?_push_of_some _ (Heap.get?_push_size _ rfl), rfl, rfl⟩ fun b o x => Heap.get?_push_of_some _ (Heap.get?_push_of_some _ x)⟩
end
end PD

set_option linter.all false
set_option maxRecDepth 100000
/-! PD14: loops over enumerate, zip, any sequence. -/
namespace PD
open PySem PySem.Spec PyProof.Rows L2

/-- the tuple at a, each item with its place in a new pair -/
def IteT (K : PySem.W.Frag) (a : Addr) : It where
  go := fun i H => ∃ xs x, SqT K H a xs ∧ xs[i]? = some x
  yld := fun i H v H' => ∃ T x, v = .ref T ∧ H T = none ∧ H' = upd H T (.tup [.int (i : Nat), x]) ∧ ∀ xs, SqT K H a xs → xs[i]? = some x
  stop := fun i H => ∃ xs, SqT K H a xs ∧ xs.length = i
theorem turn_enumT {P : Program} {w : World} {K : PySem.W.Frag} {elts : List Expr} {kk : Nat} {tpos : Pos} (a e it : Addr) (hae : a ≠ it) :
    Turn P w K (.Tuple elts kk tpos) (IteT K a) [e, it] e (fun i h => (∃ old, IsEnum h e it ((i : Nat) : Int) old) ∧ h.IsTupleIter it a i ∧ e ≠ it ∧ a ≠ e) where
  mem := by simp
  obj := fun i h st b hb => by
    obtain ⟨⟨old, he⟩, ⟨o, ho, hc, hd⟩, _⟩ := st
    have e' : b = e ∨ b = it := by simpa using hb
    rcases e' with rfl | rfl
    · exact ⟨_, he, fun v q => by cases q⟩
    · exact ⟨o, ho, fun v q => by rw [hd] at q; cases q⟩
  keep := fun i h h' st k => let ⟨⟨old, he⟩, hi, hne, ha⟩ := st; ⟨⟨old, k e (by simp) _ he⟩, hi.at fun o q => k it (by simp) o q, hne, ha⟩
  item := by
    intro X hP hw hK hc i pins s σ H E I hf st hg
    subst hP hw hK
    obtain ⟨⟨old, he⟩, hit, hne, ha⟩ := st
    obtain ⟨xs, x, hq, hx⟩ := hg
    obtain ⟨its, rv, p, hz⟩ := I.tuple hq
    obtain ⟨u, hu, ru⟩ := rv.get hx
    have hel : e < s.heap.objs.size := Heap.lt_size he
    have hil : it < s.heap.objs.size := by
      obtain ⟨_, q, _⟩ := hit
      exact Heap.lt_size q
    have hef : e ∉ [it, a] := by simp [hne, Ne.symm ha]
    have hin : i < its.toArray.size := by
      obtain ⟨q, _⟩ := List.getElem?_eq_some_iff.mp hu
      simpa using q
    refine wpAny_pyNext_enum_itemD (Draws.tuple (A := X.A.in1) (I.ok.hd hc) it a hae its.toArray) he ⟨hit, p⟩ hin hne hef fun y h' tk hy ho hst hT hsz hk => ?_
    have ey : y = u := by
      have q : its.toArray[i]? = some y := hy
      rw [show its.toArray[i]? = some u by simpa using hu] at q
      exact (Option.some.inj q).symm
    subst ey
    refine ⟨_, rfl, wpAny_letOwnedTupleGo_enum (s := { s with heap := h', toks := tk + 1 }) ho fun h'' he' sb => ?_⟩
    have hT2 : h''.get? s.heap.objs.size = some { cls := .type "tuple", data := .seq #[.int i tk, y] } := (sb.2 _ (Nat.ne_of_gt hel)).trans hT
    have new : ObjOk X.prog X.w (upd H s.heap.objs.size (.tup [.int (i : Nat), x])) h'' s.heap.objs.size (.tup [.int (i : Nat), x]) := ⟨by show 2 ≤ sizeLine; decide, [.int i tk, y], .cons ⟨_, rfl⟩ (.cons ru .nil), ⟨_, hT2, rfl, _, rfl⟩⟩
    have I1 : Inv X pins σ (upd H s.heap.objs.size (.tup [.int (i : Nat), x])) { s with heap := h'', toks := tk + 1 } := by
      refine I.turnedNew (ch := [e, it]) (fun b ob hb q => ?_) hf (Nat.le_refl _) new
      have n1 : b ≠ e := fun z => hb (by simp [z])
      have n2 : b ≠ it := fun z => hb (by simp [z])
      exact (sb.2 b n1).trans (hk b ob n1 n2 q)
    refine ⟨.ref s.heap.objs.size, _, I1, rfl, ⟨_, x, rfl, I.hok.fresh (Nat.le_refl _), rfl, fun ys hy => by rw [I.tuple_inj hy hq]; exact hx⟩, ⟨⟨y, ?_⟩, hst.1.at fun o q => (sb.2 it (Ne.symm hne)).trans q, hne, ha⟩, fun b hb => ?_⟩
    · rw [show ((i + 1 : Nat) : Int) = (i : Int) + 1 by omega]
      exact he'
    · have hb' : b < s.heap.objs.size := by
        have e' : b = e ∨ b = it := by simpa using hb
        rcases e' with rfl | rfl
        · exact hel
        · exact hil
      rw [upd_ne (Nat.ne_of_lt hb')]
      exact (hf b hb).1
  done := by
    intro X hP hw hK hc i pins s σ H E I hf st hg
    subst hP hw hK
    obtain ⟨⟨old, he⟩, hit, hne, ha⟩ := st
    obtain ⟨xs, hq, hx⟩ := hg
    obtain ⟨its, rv, p, hz⟩ := I.tuple hq
    obtain ⟨f0, f1, f2, f3, f4, f5⟩ := hf it (by simp)
    have hl : i = its.toArray.size := by rw [List.size_toArray, ← rv.length]; exact hx.symm
    subst hl
    exact wpAny_pyNext_enum_endD (Draws.tuple (A := X.A.in1) (I.ok.hd hc) it a hae its.toArray) he ⟨hit, p⟩ fun h' eb => ⟨rfl, I.turned (t' := s.toks) (fun b o hb q => eb b o hb q) f0 f1 f3 f4 f5⟩
  self := fun A i s Q E st h => let ⟨⟨_, he⟩, _⟩ := st; wpAny_pyIter_enum he h
section
variable {X : Cx} {Z : Zt} {Γ : Gm} {tg e e2 : Expr} {es : List Expr} {elts : List Expr} {kk : Nat} {fa : S → R W} {fs : S → R (List W)} {pos p tpos : Pos}
theorem pi_enumT {ta : TA} (hg : Gl X "enumerate") (hm : X.mg "enumerate" = none) (ha : PA X [e] ta) (hs : starEach [e] X.env = [(false, eval e X.env)] := by rfl) :
    PI X (.Tuple elts kk tpos) (.Call (.Name "enumerate" p) [e] [] pos) (fun σ H Rr => ta σ H fun vs H1 => ∃ a xs, vs = [.ref a] ∧ SqT X.K H1 a xs ∧ Rr (IteT X.K a) H1) := by
  refine ⟨fun pins s σ H Rr I h => ?_⟩
  refine Call_ (ld_blt I hg hm boot_enumerate (PyProof.Rows.callWith_type1 (thn (ha.run pos pins s σ H _ I h) fun us s1 ⟨vs, H1, I1, r1, q1⟩ => ?_) hs rfl))
  obtain ⟨a, xs, rfl, hq, q⟩ := q1
  cases r1 with
  | cons r rr =>
    cases rr
    cases r
    obtain ⟨its, rv, p', hz⟩ := I1.tuple hq
    have ha' : a < s1.heap.objs.size := by
      obtain ⟨o, ho, _⟩ := p'
      exact Heap.lt_size ho
    refine call_enumT p' fun h' he hit hk => wpAny_pyIter_enum he ?_
    have I2 : Inv X pins σ H1 { s1 with heap := h' } := I1.kept (t' := s1.toks) hk
    refine ⟨s1.heap.objs.size + 1, [s1.heap.objs.size + 1, s1.heap.objs.size], _, _, H1, rfl, I2, turn_enumT a (s1.heap.objs.size + 1) s1.heap.objs.size (Nat.ne_of_lt ha'), ⟨⟨.none, he⟩, hit, Nat.succ_ne_self _, Nat.ne_of_lt (Nat.lt_succ_of_lt ha')⟩, fun b hb => ?_, q⟩
    have hle : s1.heap.objs.size ≤ b := by
      have e' : b = s1.heap.objs.size + 1 ∨ b = s1.heap.objs.size := by simpa using hb
      rcases e' with rfl | rfl
      · exact Nat.le_succ _
      · exact Nat.le_refl _
    exact I1.fpOk hle (I1.hok.fresh hle)
/-- pairs that are made anew -/
theorem itr_pairs {C : (Addr → Prop) → Hp → Prop} {Y : Addr → Prop} {H : Hp} {J : It} {xs ys : List D} (n : Nat) (hn : n = min xs.length ys.length) (hgo : ∀ Y2 H2, Fw Z Y H Y2 H2 → ∀ i, i < n → J.go i H2) (hst : ∀ Y2 H2, Fw Z Y H Y2 H2 → J.stop n H2)
    (hy : ∀ Y2 H2, Fw Z Y H Y2 H2 → ∀ (i : Nat) x y v H3, xs[i]? = some x → ys[i]? = some y → J.yld i H2 v H3 → ∃ T vx vy, v = .ref T ∧ H2 T = none ∧ H3 = upd H2 T (.tup [vx, vy]) ∧ Rep Z Y2 H2 x vx ∧ Rep Z Y2 H2 y vy) : ItR Z C Y H J (pairsD xs ys) := by
  have hl : (pairsD xs ys).length = n := by unfold pairsD; simp [hn]
  refine ⟨fun Y2 H2 F _ i hi => hgo Y2 H2 F i (by rw [hl] at hi; exact hi), fun Y2 H2 F _ => by rw [hl]; exact hst Y2 H2 F, fun Y2 H2 F hY i d hd v H3 y => ?_⟩
  unfold pairsD at hd
  rw [List.getElem?_map] at hd
  cases e : (xs.zip ys)[i]? with
  | none => rw [e] at hd; cases hd
  | some p =>
    rw [e] at hd
    cases hd
    obtain ⟨e1, e2⟩ := List.getElem?_zip_eq_some.mp e
    obtain ⟨T, vx, vy, rfl, nT, rfl, rx, ry⟩ := hy Y2 H2 F i p.1 p.2 v H3 e1 e2 y
    refine ⟨same_new nT, rep_tup hY.1 nT ?_⟩
    simp only [RepL]
    exact ⟨vx, [vy], rfl, rx, vy, [], rfl, ry, rfl⟩
def gEnum : List W → Option (List D)
  | [.d (.lst ds)] => some (enumD ds)
  | [.d (.tup ds)] => some (enumD ds)
  | _ => none
def gZip : List W → Option (List D)
  | [.d (.lst ds), .d (.lst es)] => some (pairsD ds es)
  | [.d (.tup ds), .d (.tup es)] => some (pairsD ds es)
  | _ => none
theorem enum_get {ds : List D} {i : Nat} {x : D} (h : ((List.range ds.length).map fun (i : Nat) => D.int i)[i]? = some x) : x = .int i := by
  rw [List.getElem?_map] at h
  cases e : (List.range ds.length)[i]? with
  | none => rw [e] at h; cases h
  | some j =>
    rw [e] at h
    obtain ⟨h1, h2⟩ := List.getElem?_eq_some_iff.mp e
    rw [List.getElem_range] at h2
    subst h2
    cases h
    rfl
theorem di_enum (hK : X.K = Z.K) (hg : Gl X "enumerate") (hm : X.mg "enumerate" = none) (ha : PA X [e] (tA Z Γ fs)) (hs : starEach [e] X.env = [(false, eval e X.env)] := by rfl) : PI X (.Tuple elts kk tpos) (.Call (.Name "enumerate" p) [e] [] pos) (tI Z Γ (iOf gEnum fs)) := by
  refine ⟨fun pins s σ H Rr I h => ?_⟩
  obtain ⟨s0, Lv, R0, po⟩ := h
  unfold iOf at po
  have main : ∀ b : Bool, (b = true → ∀ ws s1, fs s0 = .ok ws s1 → ∀ ds, ws ≠ [.d (.tup ds)]) → (b = false → ∀ ws s1, fs s0 = .ok ws s1 → ∀ ds, ws ≠ [.d (.lst ds)]) → wpAny (model X.prog X.w) X.A (eval (.Call (.Name "enumerate" p) [e] [] pos) X.env) (fun v s1 => wpAny (model X.prog X.w) X.A (pyIter v) (PIE X pins σ (.Tuple elts kk tpos) Rr) X.xe s1) X.xe s := by
    intro b h1 h2
    cases b with
    | true =>
      refine (pi_enum hg hm ha hs).run pins s σ H Rr I ⟨s0, Lv, R0, po.bind.mono fun vs H1 ⟨ws, s1, Lv1, e0, R1, F1, r1, po1⟩ => ?_⟩
      have nt := h1 rfl ws s1 e0
      clear e0
      unfold gEnum at po1
      split at po1
      · rename_i ds
        obtain ⟨v, rfl, r2⟩ := wrep1 r1
        have r2 : Rep Z (Γ.X Lv1) H1 (.lst ds) v := r2
        simp only [Rep] at r2
        obtain ⟨a, us, rfl, n, ha, r⟩ := r2
        have el := r.length
        refine ⟨a, us, rfl, .of ha, ?_⟩
        rw [hK]
        refine po1.ok R1 (itr_pairs (J := Ite Z.K a) us.length (by simp [el]) (fun Y2 H2 F i hi => ?_) (fun Y2 H2 F => ?_) fun Y2 H2 F i x y v H3 hx hy yl => ?_)
        · exact (walk_enum (K := Z.K) (a := a) (xs := us)).goes i H2 hi (.of (fw_lst F n ha))
        · exact (walk_enum (K := Z.K) (a := a) (xs := us)).stops H2 (.of (fw_lst F n ha))
        · obtain ⟨vy, ey, ry⟩ := (r.mono F).get hy
          have hi : i < us.length := (List.getElem?_eq_some_iff.mp ey).1
          obtain ⟨T, vx', vy', rfl, nT, rfl, ex', ey'⟩ := (walk_enum (K := Z.K) (a := a) (xs := us)).yields i H2 v H3 hi (.of (fw_lst F n ha)) yl
          cases ex'
          have ey' : us[i]? = some vy' := ey'
          rw [ey] at ey'
          cases ey'
          rw [enum_get hx]
          exact ⟨T, _, _, rfl, nT, rfl, rep_int, ry⟩
      · rename_i ds
        exact absurd rfl (nt ds)
      · exact po1.elim
    | false =>
      refine (pi_enumT hg hm ha hs).run pins s σ H Rr I ⟨s0, Lv, R0, po.bind.mono fun vs H1 ⟨ws, s1, Lv1, e0, R1, F1, r1, po1⟩ => ?_⟩
      have nt := h2 rfl ws s1 e0
      clear e0
      unfold gEnum at po1
      split at po1
      · rename_i ds
        exact absurd rfl (nt ds)
      · rename_i ds
        obtain ⟨v, rfl, r2⟩ := wrep1 r1
        have r2 : Rep Z (Γ.X Lv1) H1 (.tup ds) v := r2
        simp only [Rep] at r2
        obtain ⟨a, us, rfl, ha, r⟩ := r2
        have el := r.length
        refine ⟨a, us, rfl, by rw [hK]; exact ha.sq, ?_⟩
        rw [hK]
        refine po1.ok R1 (itr_pairs (J := IteT Z.K a) us.length (by simp [el]) (fun Y2 H2 F i hi => ?_) (fun Y2 H2 F => ?_) fun Y2 H2 F i x y v H3 hx hy yl => ?_)
        · exact ⟨us, us[i], (fw_tup F ha).sq, by simp [hi]⟩
        · exact ⟨us, (fw_tup F ha).sq, rfl⟩
        · obtain ⟨vy, ey, ry⟩ := (r.mono F).get hy
          obtain ⟨T, vy', rfl, nT, rfl, ey'⟩ := yl
          have ey' := ey' us (fw_tup F ha).sq
          rw [ey] at ey'
          cases ey'
          rw [enum_get hx]
          exact ⟨T, _, _, rfl, nT, rfl, rep_int, ry⟩
      · exact po1.elim
  cases e1 : fs s0 with
  | st => rw [e1] at po; exact po.elim
  | er c ns ds s1 => exact main true (fun _ ws s1 q => by rw [e1] at q; cases q) (fun q => by cases q)
  | ok ws s1 =>
    by_cases hq : ∃ ds, ws = [.d (.tup ds)]
    · obtain ⟨ds, rfl⟩ := hq
      exact main false (fun q => by cases q) fun _ ws s1 q ds => by rw [e1] at q; cases q; simp
    · exact main true (fun _ ws' s1 q ds z => by rw [e1] at q; cases q; exact hq ⟨ds, z⟩) (fun q => by cases q)
theorem di_zip (hK : X.K = Z.K) (hg : Gl X "zip") (hm : X.mg "zip" = none) (ha : PA X [e, e2] (tA Z Γ fs)) (hs : starEach [e, e2] X.env = (false, eval e X.env) :: starEach [e2] X.env := by rfl) (hpl : (backTo pos (starEach [e2] X.env)).any (·.1) = false := by rfl) :
    PI X (.Tuple elts kk tpos) (.Call (.Name "zip" p) [e, e2] [] pos) (tI Z Γ (iOf gZip fs)) := by
  refine pi_imp (RZ.pi_zipA hg hm ha hs hpl) fun σ H Q h => ?_
  obtain ⟨s0, Lv, R0, po⟩ := h
  refine ⟨s0, Lv, R0, po.bind.mono fun vs H1 ⟨ws, s1, Lv1, e0, R1, F1, r1, po1⟩ => ?_⟩
  clear e0
  unfold gZip at po1
  split at po1
  · rename_i ds es
    obtain ⟨v, u, rfl, r2, r3⟩ := wrep2 r1
    have r2 : Rep Z (Γ.X Lv1) H1 (.lst ds) v := r2
    have r3 : Rep Z (Γ.X Lv1) H1 (.lst es) u := r3
    simp only [Rep] at r2 r3
    obtain ⟨a, us, rfl, n, ha, r⟩ := r2
    obtain ⟨b, us', rfl, n', hb, r'⟩ := r3
    have el := r.length
    have el' := r'.length
    refine ⟨a, b, us, us', rfl, .inl ⟨.of ha, .of hb, ?_⟩⟩
    rw [hK]
    have w : ∀ Y2 H2, Fw Z (Γ.X Lv1) H1 Y2 H2 → SqL Z.K H2 a us ∧ SqL Z.K H2 b us' := fun Y2 H2 F => ⟨.of (fw_lst F n ha), .of (fw_lst F n' hb)⟩
    refine po1.ok R1 (itr_pairs (J := Itz Z.K a b) (min us.length us'.length) (by rw [el, el']) (fun Y2 H2 F i hi => ?_) (fun Y2 H2 F => ?_) fun Y2 H2 F i x y v H3 hx hy yl => ?_)
    · exact (walk_zip (K := Z.K) (a := a) (b := b) rfl).goes i H2 hi (w Y2 H2 F)
    · exact (walk_zip (K := Z.K) (a := a) (b := b) rfl).stops H2 (w Y2 H2 F)
    · obtain ⟨vx, ex, rx⟩ := (r.mono F).get hx
      obtain ⟨vy, ey, ry⟩ := (r'.mono F).get hy
      have h1 := (List.getElem?_eq_some_iff.mp ex).1
      have h2 := (List.getElem?_eq_some_iff.mp ey).1
      obtain ⟨T, vx', vy', rfl, nT, rfl, ex', ey'⟩ := (walk_zip (K := Z.K) (a := a) (b := b) (xs := us) (ys := us') rfl).yields i H2 v H3 (by omega) (w Y2 H2 F) yl
      have ex' : us[i]? = some vx' := ex'
      have ey' : us'[i]? = some vy' := ey'
      rw [ex] at ex'
      rw [ey] at ey'
      cases ex'
      cases ey'
      exact ⟨T, _, _, rfl, nT, rfl, rx, ry⟩
  · rename_i ds es
    obtain ⟨v, u, rfl, r2, r3⟩ := wrep2 r1
    have r2 : Rep Z (Γ.X Lv1) H1 (.tup ds) v := r2
    have r3 : Rep Z (Γ.X Lv1) H1 (.tup es) u := r3
    simp only [Rep] at r2 r3
    obtain ⟨a, us, rfl, ha, r⟩ := r2
    obtain ⟨b, us', rfl, hb, r'⟩ := r3
    have el := r.length
    have el' := r'.length
    refine ⟨a, b, us, us', rfl, .inr ⟨by rw [hK]; exact ha.sq, by rw [hK]; exact hb.sq, ?_⟩⟩
    rw [hK]
    have w : ∀ Y2 H2, Fw Z (Γ.X Lv1) H1 Y2 H2 → SqT Z.K H2 a us ∧ SqT Z.K H2 b us' := fun Y2 H2 F => ⟨(fw_tup F ha).sq, (fw_tup F hb).sq⟩
    refine po1.ok R1 (itr_pairs (J := RZ.ItzT Z.K a b) (min us.length us'.length) (by rw [el, el']) (fun Y2 H2 F i hi => ?_) (fun Y2 H2 F => ?_) fun Y2 H2 F i x y v H3 hx hy yl => ?_)
    · obtain ⟨w1, w2⟩ := w Y2 H2 F
      exact ⟨us, us', us[i]'(by omega), us'[i]'(by omega), w1, w2, by simp [show i < us.length by omega], by simp [show i < us'.length by omega]⟩
    · obtain ⟨w1, w2⟩ := w Y2 H2 F
      exact ⟨us, us', w1, w2, by omega⟩
    · obtain ⟨w1, w2⟩ := w Y2 H2 F
      obtain ⟨vx, ex, rx⟩ := (r.mono F).get hx
      obtain ⟨vy, ey, ry⟩ := (r'.mono F).get hy
      obtain ⟨T, vx', vy', rfl, nT, rfl, ex', ey'⟩ := yl
      have ex' := ex' us w1
      have ey' := ey' us' w2
      rw [ex] at ex'
      rw [ey] at ey'
      cases ex'
      cases ey'
      exact ⟨T, _, _, rfl, nT, rfl, rx, ry⟩
  · exact po1.elim
/-- a list, a tuple or a text -/
def seqD : W → Option (List D)
  | .d (.lst ds) => some ds
  | .d (.tup ds) => some ds
  | .d (.str z) => some (signsD z)
  | _ => none
def iSeq (f : S → R W) : S → R (List D) := fun s => (f s).bind fun w s1 => ofO s1 (seqD w)
theorem di_seq (hK : X.K = Z.K) (ha : PE X e (tE Z Γ fa)) : PI X tg e (tI Z Γ (iSeq fa)) := by
  refine ⟨fun pins s σ H Rr I h => ?_⟩
  obtain ⟨s0, Lv, R0, po⟩ := h
  unfold iSeq at po
  cases e1 : fa s0 with
  | st => rw [e1] at po; exact po.elim
  | er c ns ds s1 => exact (di_lst hK ha).run pins s σ H Rr I ⟨s0, Lv, R0, by unfold iLst; rw [e1] at po ⊢; exact po⟩
  | ok w s1 =>
    rw [e1] at po
    simp only [PD.R.bind_ok] at po
    cases w with
    | p i => exact po.elim
    | d x =>
      cases x with
      | lst ds => exact (di_lst hK ha).run pins s σ H Rr I ⟨s0, Lv, R0, by unfold iLst; rw [e1]; exact po⟩
      | tup ds => exact (di_tup hK ha).run pins s σ H Rr I ⟨s0, Lv, R0, by unfold PD.iTup; rw [e1]; exact po⟩
      | str ds => exact (di_str ha).run pins s σ H Rr I ⟨s0, Lv, R0, by unfold iStrD; rw [e1]; exact po⟩
      | _ => exact po.elim
end
end PD

set_option linter.all false
set_option maxRecDepth 100000
/-! PD15: more statements: aug, parallel assignments, fresh arguments. -/
namespace PD
open PySem PySem.Spec PyProof.Rows L2

theorem OwnRep.notbl {Z : Zt} {X : Addr → Prop} {H : Hp} {o : O} {v : V} {L : List Addr} (r : OwnRep Z X H o v L) {a : Addr} (hj : a ∈ L) {ps : Array Value} (h : H a = some (.tbl ps)) : False := by
  have fdl : ∀ (fs : List Fd) (vs : List V) (As : List Addr), FdL Z X H fs vs As → a ∉ As := by
    intro fs
    induction fs with
    | nil => intro vs As h h2; rw [h.2] at h2; cases h2
    | cons f fs ih =>
      intro vs As h2 h3
      cases f with
      | d x =>
        obtain ⟨_, vr, _, _, h2⟩ := h2
        exact ih vr As h2 h3
      | l ds =>
        obtain ⟨b, vr, ws, Ar, _, e2, e3, _, h2⟩ := h2
        subst e2
        rcases List.mem_cons.mp h3 with z | z
        · rw [z, e3] at h; cases h
        · exact ih vr Ar h2 z
  cases o with
  | lst ds =>
    obtain ⟨b, vs, _, e2, e3, _⟩ := r
    rw [e2] at hj
    rw [List.mem_singleton.mp hj, e3] at h; cases h
  | dic ks ds =>
    obtain ⟨b, vs, _, e2, _, e3, _⟩ := r
    rw [e2] at hj
    rw [List.mem_singleton.mp hj, e3] at h; cases h
  | dit ks ds =>
    obtain ⟨b, vs, _, e2, _, e3, _⟩ := r
    rw [e2] at hj
    rw [List.mem_singleton.mp hj, e3] at h; cases h
  | ins c ns fs =>
    obtain ⟨b, C, dx, vs, As, _, e2, _, _, e3, r⟩ := r
    rw [e2] at hj
    rcases List.mem_cons.mp hj with z | z
    · rw [z, e3] at h; cases h
    · exact fdl _ _ _ r z

/-! ### aug -/
def sNever : S → SR := fun _ => .st
def sAug (i : Nat) (g : Int → Int → Option Int) (f : S → R W) : S → SR := fun s => match s[i]? with
  | some (.fz (.int a)) => sBind (f s) fun w s1 => match fzW w with
    | some (.int b) => (match g a b with
      | some c => if i < s1.length then .nx (s1.set i (.fz (.int c))) else .st
      | none => .st)
    | _ => .st
  | _ => .st
structure IpOk (op : Operator) (g : Int → Int → Option Int) : Prop where
  run : ∀ (X : Cx) (pins : List (Addr × Obj)) (s : Shared) (σ : L2.St) (H : Hp) (a b c : Int) (v u : Value) (Q : VK), Inv X pins σ H s → RelV (.int a) v → RelV (.int b) u → g a b = some c → Q (.int c) H →
    wpAny (model X.prog X.w) X.A (inplaceOp op v u) (EP X pins σ Q) X.xe s
theorem ipo_add : IpOk .Add fun a b => some (a + b) := ⟨fun X pins s σ H a b c v u Q I r1 r2 e q => by
  cases e
  exact ip_add pins s σ H _ _ v u Q I r1 r2 ⟨a, b, rfl, rfl, q⟩⟩
theorem ipo_sub : IpOk .Sub fun a b => some (a - b) := ⟨fun X pins s σ H a b c v u Q I r1 r2 e q => by
  cases e
  exact ip_sub pins s σ H _ _ v u Q I r1 r2 ⟨a, b, rfl, rfl, q⟩⟩
section
variable {X : Cx} {Z : Zt} {Γ : Gm} {e : Expr} {es : List Expr} {fa : S → R W} {fr : S → R Rv} {fs : S → R (List Rv)} {pos : Pos} {x y z : Str} {st : Stmt} {body : Expr}
theorem ds_never : PS X st (tS Z Γ sNever) := ps_imp ps_never fun Dn σ H h => by
  obtain ⟨_, _, _, h⟩ := h
  exact h
theorem ds_doc {d : Str} {j pos pos'} : PS X (.Expr (.Constant (.str d) j pos) pos') (tS Z Γ sNil) := ps_imp ps_doc fun Dn σ H ⟨s, Lv, R0, po⟩ => po.nx R0 Fw.refl
theorem ds_aug (i : Nat) {op : Operator} {g : Int → Int → Option Int} {pos' : Pos} (ho : IpOk op g) (he : PE X e (tE Z Γ fa)) (hN : X.N.Nodup) (hi : X.N[i]? = some x := by rfl) (hx : Loc X.env.scope x := by first | exact Or.inl rfl | exact Or.inr rfl) (hb : Γ.bor i = none := by rfl)
    (hf : X.fn x = true ∨ X.env.scope.names.lookup x = some .local := by first | exact .inl rfl | exact .inr rfl | assumption) : PS X (.AugAssign (.Name x pos') op e pos) (tS Z Γ (sAug i g fa)) := by
  refine ps_imp (ps_aug (ti := fun x y H Q => ∃ a b c, x = .int a ∧ y = .int b ∧ g a b = some c ∧ Q (.int c) H) hN hi hx he (fun pins s σ H x y v u Q I r1 r2 ⟨a, b, c, e1, e2, e3, q⟩ => by subst e1; subst e2; exact ho.run X pins s σ H a b c v u Q I r1 r2 e3 q) hf) fun Dn σ H h => ?_
  obtain ⟨s, Lv, R0, po⟩ := h
  unfold sAug at po
  split at po
  · rename_i a e0
    obtain ⟨v0, q0, r0⟩ := R0.fz e0
    simp only [Rep] at r0
    subst r0
    refine ⟨.int a, q0, s, Lv, R0, po.bind.mono fun v H1 ⟨w, s1, Lv1, _, R1, F1, r1, po1⟩ => ?_⟩
    split at po1
    · rename_i b e1
      have r := fz_ok r1 e1
      simp only [Rep] at r
      subst r
      split at po1
      · rename_i c e2
        by_cases hl : i < s1.length
        · rw [if_pos hl] at po1
          refine ⟨a, b, c, rfl, rfl, e2, ?_⟩
          have hX : Γ.plus [] = Γ := by unfold Gm.plus; simp
          obtain ⟨R2, F2⟩ := Rl.setR (Γ := Γ) (L := []) (r := .d (.int c)) (v := .int c) (by rw [hX]; exact R1) R0.bx R0.pinx hl hb List.nodup_nil (fun b hb => by cases hb) ⟨rfl, by simp only [Rep]⟩
          rw [hX] at F2
          exact po1.nx R2 F2
        · rw [if_neg hl] at po1; exact po1.elim
      · exact po1.elim
    · exact po1.elim
  · exact po.elim
end

/-! ### several values, some of them owned by nobody yet -/
def RvRepL (Z : Zt) (X : Addr → Prop) (H : Hp) : List Rv → List V → List Addr → Prop
  | [], vs, L => vs = [] ∧ L = []
  | r :: rs, vs, L => ∃ v vr L1 L2, vs = v :: vr ∧ L = L1 ++ L2 ∧ RvRep Z X H r v L1 ∧ RvRepL Z X H rs vr L2
def tAR (Z : Zt) (Γ : Gm) (f : S → R (List Rv)) : TA := fun σ H Q => ∃ s Lv, Rl Z Γ s Lv σ H ∧ match f s with
  | .ok a s' => ∀ v H' Lv' L, Rl Z (Γ.plus L) s' Lv' σ H' → Fw Z (Γ.X Lv) H ((Γ.plus L).X Lv') H' → L.Nodup → (∀ b ∈ L, ¬ Γ.X Lv' b ∧ Γ.H0 b = none) → RvRepL Z ((Γ.plus L).X Lv') H' a v L → Q v H'
  | .er c ns ds s' => ∀ cls d H' Lv', Rl Z Γ s' Lv' σ H' → Fw Z (Γ.X Lv) H (Γ.X Lv') H' → ExR Z (Γ.X Lv') H' c ns ds cls d → Γ.E cls d σ H'
  | .st => False
/-- the objects of L stand as they are -/
def Gm.hold (Γ : Gm) (L : List Addr) (H : Hp) : Gm := { Γ.plus L with pin := fun a o => Γ.pin a o ∨ (a ∈ L ∧ (∀ ps, o ≠ .tbl ps) ∧ H a = some o) }
def rCons (f : S → R Rv) (g : S → R (List Rv)) : S → R (List Rv) := fun s => (f s).bind fun r s1 => (g s1).bind fun rs s2 => .ok (r :: rs) s2
def rNil : S → R (List Rv) := fun s => .ok [] s
def rDat (f : S → R W) : S → R Rv := fun s => (f s).bind fun w s1 => ofO s1 ((fzW w).map .d)
section
variable {X : Cx} {Z : Zt} {Γ : Gm} {e : Expr} {es : List Expr} {fa : S → R W} {fr : S → R Rv} {fs : S → R (List Rv)} {pos : Pos} {x y z : Str}
theorem plus_nil : Γ.plus [] = Γ := by unfold Gm.plus; simp
theorem plus_app {L1 L2 : List Addr} : Γ.plus (L1 ++ L2) = (Γ.plus L2).plus L1 := by
  unfold Gm.plus
  congr 1
  funext a
  simp only [List.mem_append, eq_iff_iff]
  constructor
  · rintro (h | h | h)
    · exact .inl (.inl h)
    · exact .inr h
    · exact .inl (.inr h)
  · rintro ((h | h) | h)
    · exact .inl h
    · exact .inr (.inr h)
    · exact .inr (.inl h)
theorem dr_d (he : PE X e (tE Z Γ fa)) : PE X e (tR Z Γ (rDat fa)) := by
  refine pe_imp he fun σ H Q h => ?_
  obtain ⟨s, Lv, R0, po⟩ := h
  refine ⟨s, Lv, R0, ?_⟩
  unfold rDat at po
  cases e1 : fa s with
  | st => rw [e1] at po; exact po.elim
  | er c ns ds s1 => rw [e1] at po; exact po
  | ok w s1 =>
    rw [e1] at po
    simp only [PD.R.bind_ok] at po
    intro v H1 Lv1 R1 F1 r1
    cases e2 : fzW w with
    | none => rw [e2] at po; exact po.elim
    | some d =>
      rw [e2] at po
      simp only [Option.map_some, ofO_some] at po
      exact po v H1 Lv1 [] (by rw [plus_nil]; exact R1) (by rw [plus_nil]; exact F1) List.nodup_nil (fun b hb => by cases hb) ⟨rfl, by rw [plus_nil]; exact fz_ok r1 e2⟩
theorem dar_nil : PA X [] (tAR Z Γ rNil) := by
  refine pa_imp pa_nil fun σ H Q h => ?_
  obtain ⟨s, Lv, R0, po⟩ := h
  exact po [] H Lv [] (by rw [plus_nil]; exact R0) (by rw [plus_nil]; exact Fw.refl) List.nodup_nil (fun b hb => by cases hb) ⟨rfl, rfl⟩
theorem RvRep.hold {H H' : Hp} {r : Rv} {v : V} {L : List Addr} {X1 X2 : Addr → Prop} (rr : RvRep Z X1 H r v L) (F : Fw Z X1 H X2 H') (pn : ∀ a ∈ L, ∀ o, H a = some o → (∀ ps, o ≠ .tbl ps) → H' a = some o) : RvRep Z X2 H' r v L := by
  refine rr.mono F fun a ha => ?_
  cases r with
  | d x => rw [rr.1] at ha; cases ha
  | o x =>
    have rr : OwnRep Z X1 H x v L := rr
    cases q : H a with
    | none => exact absurd q (rr.there a ha)
    | some o => exact pn a ha o q fun ps z => rr.notbl ha (by rw [q, z])
theorem dar_cons (he : PE X e (tR Z Γ fr)) (hr : ∀ L H1, PA X es (tAR Z (Γ.hold L H1) fs)) (hs : starEach (e :: es) X.env = (false, eval e X.env) :: starEach es X.env := by rfl) : PA X (e :: es) (tAR Z Γ (rCons fr fs)) := by
  refine pa_imp (pa_cons (t := fun σ H Q => ∃ L H1, tAR Z (Γ.hold L H1) fs σ H Q) he ⟨fun pos pins s σ H Q I ⟨L, H1, h⟩ => (hr L H1).run pos pins s σ H Q I h⟩ hs) fun σ H Q h => ?_
  obtain ⟨s, Lv, R0, po⟩ := h
  refine ⟨s, Lv, R0, ?_⟩
  unfold rCons at po
  cases e1 : fr s with
  | st => rw [e1] at po; exact po.elim
  | er c ns ds s1 => rw [e1] at po; exact po
  | ok r s1 =>
    rw [e1] at po
    simp only [PD.R.bind_ok] at po
    intro v H1 Lv1 L1 R1 F1 nd1 nw1 rr1
    refine ⟨L1, H1, s1, Lv1, ?_, ?_⟩
    · refine ⟨R1.len, R1.sl, R1.out, R1.nd, R1.dj, R1.lvb, R1.keep, R1.ktbl, R1.st0, R1.x0, R1.bx, R1.tb, R1.bor, fun a o h => ?_⟩
      rcases h with h | ⟨h1, h2, h3⟩
      · exact R1.pn a o h
      · exact ⟨.inl (.inr h1), .inl fun q => (nw1 a h1).1 (.inl (R0.bx a q)), h2, h3⟩
    · cases e2 : fs s1 with
      | st => rw [e2] at po; exact po.elim
      | er c ns ds s2 =>
        rw [e2] at po
        intro cls d H' Lv' R' F' x
        have F2 : Fw Z (Gm.X (Γ.hold L1 H1) Lv') H' (Γ.X Lv') H' := Fw.refl.less fun a h => by
          rcases h with h | h
          · exact .inl (.inl h)
          · exact .inr h
        refine po cls d H' Lv' (R'.less0 (L := L1) rfl rfl rfl rfl R0.bx fun a o h => ?_) (F1.trans (F'.trans F2)) ?_
        · obtain ⟨_, p2, p3, p4⟩ := R'.pn a o (.inl h)
          exact ⟨R0.pinx a o h, p2, p3, p4⟩
        · obtain ⟨C, e1, e2, e3⟩ := x
          exact ⟨C, e1, e2, e3.imp id fun ⟨dd, vs, a, b, c, d⟩ => ⟨dd, vs, a, b, c, d.mono F2⟩⟩
      | ok rs s2 =>
        rw [e2] at po
        simp only [PD.R.bind_ok] at po
        intro vs H2 Lv2 L2 R2 F2 nd2 nw2 rr2
        have hG : (Γ.plus (L1 ++ L2)).X0 = (Gm.plus (Γ.hold L1 H1) L2).X0 := by
          funext a
          simp only [Gm.plus, Gm.hold, List.mem_append, eq_iff_iff, or_assoc]
        have X12 : ∀ a, ¬ a ∈ L1 → ¬ a ∈ L2 → ∀ Lv, (Γ.plus (L1 ++ L2)).X Lv a → Γ.X Lv a := fun a n1 n2 Lv h => by
          rcases h with (h | h) | h
          · exact .inl h
          · exact ((List.mem_append.mp h).elim n1 n2).elim
          · exact .inr h
        have hX2 : ∀ a, (Γ.plus (L1 ++ L2)).X Lv2 a ↔ (Gm.plus (Γ.hold L1 H1) L2).X Lv2 a := fun a => by
          show (Γ.plus (L1 ++ L2)).X0 a ∨ _ ↔ (Gm.plus (Γ.hold L1 H1) L2).X0 a ∨ _
          rw [hG]
        have Feq : Fw Z ((Gm.plus (Γ.hold L1 H1) L2).X Lv2) H2 ((Γ.plus (L1 ++ L2)).X Lv2) H2 := Fw.refl.less fun a h => (hX2 a).mp h
        have lvn : ∀ i b, b ∈ Lv2 i → b ∉ L1 := fun i b hb h1 => by
          rcases R2.lvb i b hb with z | z
          · exact (nw1 b h1).1 (.inl (R0.bx b z.2))
          · exact z.2 (.inl (.inr h1))
        have n12 : ∀ b ∈ L2, b ∉ L1 := fun b h2 h1 => (nw2 b h2).1 (.inl (.inr h1))
        refine po (v :: vs) H2 Lv2 (L1 ++ L2) ?_ ?_ ?_ ?_ ?_
        · refine ⟨R2.len, fun i x hx => (R2.sl i x hx).mono Feq fun _ _ => rfl, R2.out, R2.nd, R2.dj, fun i a ha => ?_, R2.keep, R2.ktbl, R2.st0, fun a h => R2.x0 a (by rw [← hG]; exact h), fun a ha => .inl (R0.bx a ha), R2.tb, R2.bor, fun a o h => ?_⟩
          · rcases R2.lvb i a ha with z | z
            · exact .inl z
            · exact .inr ⟨z.1, fun q => z.2 (by rw [← hG]; exact q)⟩
          · obtain ⟨p1, p2, p3, p4⟩ := R2.pn a o (.inl h)
            exact ⟨(R0.pinx a o h).imp .inl id, p2, p3, p4⟩
        · exact F1.trans (F2.trans Feq)
        · rw [List.nodup_append]
          exact ⟨nd1, nd2, fun a h1 b h2 e => n12 b h2 (e ▸ h1)⟩
        · intro b hb
          rcases List.mem_append.mp hb with h1 | h2
          · refine ⟨fun q => ?_, (nw1 b h1).2⟩
            rcases q with q | ⟨i, q⟩
            · exact (nw1 b h1).1 (.inl q)
            · exact lvn i b q h1
          · refine ⟨fun q => (nw2 b h2).1 ?_, (nw2 b h2).2⟩
            rcases q with q | q
            · exact .inl (.inl q)
            · exact .inr q
        · refine ⟨v, vs, L1, L2, rfl, rfl, rr1.hold (F2.trans Feq) fun a ha o ho ht => ?_, ?_⟩
          · exact (R2.pn a o (.inr ⟨ha, ht, ho⟩)).2.2.2
          · have k : ∀ (rs : List Rv) (vs : List V) (L : List Addr), RvRepL Z ((Gm.plus (Γ.hold L1 H1) L2).X Lv2) H2 rs vs L → RvRepL Z ((Γ.plus (L1 ++ L2)).X Lv2) H2 rs vs L := by
              intro rs
              induction rs with
              | nil => intro vs L h; exact h
              | cons r rs ih =>
                intro vs L h
                obtain ⟨v, vr, A, B, e1, e2, e3, e4⟩ := h
                exact ⟨v, vr, A, B, e1, e2, e3.mono Feq (fun _ _ => rfl), ih _ _ e4⟩
            exact k _ _ _ rr2
end
/-- a, b = x, y -/
def sPar2 (i j : Nat) (f : S → R (List Rv)) : S → SR := fun s => sBind (f s) fun rs s1 => match rs with
  | [r1, r2] => if i < s1.length ∧ j < s1.length then .nx ((s1.set i r1.sl).set j r2.sl) else .st
  | _ => .st
def sPar3 (i j l : Nat) (f : S → R (List Rv)) : S → SR := fun s => sBind (f s) fun rs s1 => match rs with
  | [r1, r2, r3] => if i < s1.length ∧ j < s1.length ∧ l < s1.length then .nx (((s1.set i r1.sl).set j r2.sl).set l r3.sl) else .st
  | _ => .st
section
variable {X : Cx} {Z : Zt} {Γ : Gm} {fs : S → R (List Rv)} {pos : Pos} {x y z : Str} {a b c : Expr}
theorem Rl.setR2 {s : S} {Lv : Nat → List Addr} {σ : L2.St} {H : Hp} {i : Nat} {r : Rv} {v : V} {L1 L2 : List Addr} (R0 : Rl Z (Γ.plus (L1 ++ L2)) s Lv σ H) (hB : ∀ a ∈ Γ.B, Γ.X0 a) (hP : ∀ a o, Γ.pin a o → Γ.X0 a ∨ Ext o) (hi : i < s.length) (hb : Γ.bor i = none) (nd : (L1 ++ L2).Nodup)
    (nw : ∀ b ∈ L1 ++ L2, ¬ Γ.X Lv b ∧ Γ.H0 b = none) (rr : RvRep Z ((Γ.plus (L1 ++ L2)).X Lv) H r v L1) {rs : List Rv} {vs : List V} (rl : RvRepL Z ((Γ.plus (L1 ++ L2)).X Lv) H rs vs L2) :
    Rl Z (Γ.plus L2) (s.set i r.sl) (setL Lv i L1) (σ.set i (some v)) H ∧ Fw Z ((Γ.plus (L1 ++ L2)).X Lv) H ((Γ.plus L2).X (setL Lv i L1)) H ∧ L2.Nodup ∧ (∀ b ∈ L2, ¬ Γ.X (setL Lv i L1) b ∧ Γ.H0 b = none) ∧ RvRepL Z ((Γ.plus L2).X (setL Lv i L1)) H rs vs L2 := by
  rw [plus_app] at R0 rr rl ⊢
  obtain ⟨n1, n2, n3⟩ := List.nodup_append.mp nd
  have nw1 : ∀ b ∈ L1, ¬ (Γ.plus L2).X Lv b ∧ Γ.H0 b = none := fun b hb => ⟨fun q => by
    rcases q with (q | q) | q
    · exact (nw b (List.mem_append.mpr (.inl hb))).1 (.inl q)
    · exact n3 b hb b q rfl
    · exact (nw b (List.mem_append.mpr (.inl hb))).1 (.inr q), (nw b (List.mem_append.mpr (.inl hb))).2⟩
  obtain ⟨R1, F1⟩ := Rl.setR (Γ := Γ.plus L2) R0 (fun a h => .inl (hB a h)) (fun a o h => (hP a o h).imp .inl id) hi hb n1 nw1 rr
  · refine ⟨R1, F1, n2, fun b hb => ⟨fun q => ?_, (nw b (List.mem_append.mpr (.inr hb))).2⟩, ?_⟩
    · have n := (nw b (List.mem_append.mpr (.inr hb))).1
      rcases q with q | ⟨j, q⟩
      · exact n (.inl q)
      · by_cases hj : j = i
        · rw [hj, setL_same] at q; exact n3 b q b hb rfl
        · rw [setL_ne hj] at q; exact n (.inr ⟨j, q⟩)
    · have k : ∀ (rs : List Rv) (vs : List V) (L : List Addr), RvRepL Z (((Γ.plus L2).plus L1).X Lv) H rs vs L → RvRepL Z ((Γ.plus L2).X (setL Lv i L1)) H rs vs L := by
        intro rs
        induction rs with
        | nil => intro vs L h; exact h
        | cons r rs ih =>
          intro vs L h
          obtain ⟨v, vr, A, B, e1, e2, e3, e4⟩ := h
          exact ⟨v, vr, A, B, e1, e2, e3.mono F1 (fun _ _ => rfl), ih _ _ e4⟩
      exact k _ _ _ rl
theorem ds_par2 (i j : Nat) {px py pt : Pos} {kt k2 pt2} (ha : PA X [a, b] (tAR Z Γ fs)) (hc : X.calm = true) (hN : X.N.Nodup) (hi : X.N[i]? = some x := by rfl) (hj : X.N[j]? = some y := by rfl) (hij : i ≠ j := by decide)
    (hx : X.env.scope.names.lookup x = some .local := by rfl) (hy : X.env.scope.names.lookup y = some .local := by rfl) (hb : Γ.bor i = none ∧ Γ.bor j = none := by exact ⟨rfl, rfl⟩)
    (hw : swappedStores [.Tuple [.Name x px, .Name y py] kt pt] (.Tuple [a, b] k2 pt2) X.env = pure (some [x, y]) := by rfl)
    (hs : swapsWithSole [.Tuple [.Name x px, .Name y py] kt pt] (.Tuple [a, b] k2 pt2) pos.line X.env = pure false := by rfl) :
    PS X (.Assign [.Tuple [.Name x px, .Name y py] kt pt] (.Tuple [a, b] k2 pt2) pos) (tS Z Γ (sPar2 i j fs)) := by
  refine ps_imp (ps_par hc hN hi hj hij hx hy ha hw hs) fun Dn σ H h => ?_
  obtain ⟨s, Lv, R0, po⟩ := h
  refine ⟨s, Lv, R0, ?_⟩
  unfold sPar2 at po
  cases e1 : fs s with
  | st => rw [e1] at po; exact po.elim
  | er c ns ds s1 => rw [e1] at po; exact fun cls d H' Lv' R' F' x => po cls d _ H' Lv' R' F' x
  | ok rs s1 =>
    rw [e1] at po
    simp only [sBind_ok] at po
    intro vs H' Lv' L R1 F1 nd nw rr
    split at po
    · rename_i r1 r2
      obtain ⟨v, vr, L1, L2, rfl, rfl, q1, q2⟩ := rr
      have q2' := q2
      obtain ⟨w, vr, L3, L4, rfl, rfl, q3, q4, rfl⟩ := q2
      rw [List.append_nil] at R1 F1 nd nw q1 q2' q3
      refine ⟨v, w, by rw [q4], ?_⟩
      by_cases hl : i < s1.length ∧ j < s1.length
      · rw [if_pos hl] at po
        obtain ⟨R2, F2, nd2, nw2, rl2⟩ := R1.setR2 R0.bx R0.pinx hl.1 hb.1 nd nw q1 q2'
        obtain ⟨_, _, L5, L6, e1, e2, q5, _, rfl⟩ := rl2
        cases e1
        rw [List.append_nil] at e2
        subst e2
        obtain ⟨R3, F3⟩ := R2.setR R0.bx R0.pinx (by rw [List.length_set]; exact hl.2) hb.2 nd2 nw2 q5
        exact po.nx R3 (F1.trans (F2.trans F3))
      · rw [if_neg hl] at po; exact po.elim
    · exact po.elim
theorem ds_par3 (i j l : Nat) {px py pz pt : Pos} {kt k2 pt2} (ha : PA X [a, b, c] (tAR Z Γ fs)) (hc : X.calm = true) (hN : X.N.Nodup) (hi : X.N[i]? = some x := by rfl) (hj : X.N[j]? = some y := by rfl) (hk : X.N[l]? = some z := by rfl) (hij : i ≠ j := by decide) (hil : i ≠ l := by decide) (hjl : j ≠ l := by decide)
    (hx : X.env.scope.names.lookup x = some .local := by rfl) (hy : X.env.scope.names.lookup y = some .local := by rfl) (hz : X.env.scope.names.lookup z = some .local := by rfl) (hb : Γ.bor i = none ∧ Γ.bor j = none ∧ Γ.bor l = none := by exact ⟨rfl, rfl, rfl⟩)
    (hw : swappedStores [.Tuple [.Name x px, .Name y py, .Name z pz] kt pt] (.Tuple [a, b, c] k2 pt2) X.env = pure (some [x, y, z]) := by rfl)
    (hs : swapsWithSole [.Tuple [.Name x px, .Name y py, .Name z pz] kt pt] (.Tuple [a, b, c] k2 pt2) pos.line X.env = pure false := by rfl) :
    PS X (.Assign [.Tuple [.Name x px, .Name y py, .Name z pz] kt pt] (.Tuple [a, b, c] k2 pt2) pos) (tS Z Γ (sPar3 i j l fs)) := by
  refine ps_imp (ps_par3 hc hN hi hj hk hij hil hjl hx hy hz ha hw hs) fun Dn σ H h => ?_
  obtain ⟨s, Lv, R0, po⟩ := h
  refine ⟨s, Lv, R0, ?_⟩
  unfold sPar3 at po
  cases e1 : fs s with
  | st => rw [e1] at po; exact po.elim
  | er c ns ds s1 => rw [e1] at po; exact fun cls d H' Lv' R' F' x => po cls d _ H' Lv' R' F' x
  | ok rs s1 =>
    rw [e1] at po
    simp only [sBind_ok] at po
    intro vs H' Lv' L R1 F1 nd nw rr
    split at po
    · rename_i r1 r2 r3
      obtain ⟨v, vr, L1, L2, rfl, rfl, q1, q2⟩ := rr
      by_cases hl : i < s1.length ∧ j < s1.length ∧ l < s1.length
      · rw [if_pos hl] at po
        obtain ⟨R2, F2, nd2, nw2, rl2⟩ := R1.setR2 R0.bx R0.pinx hl.1 hb.1 nd nw q1 q2
        obtain ⟨w, wr, L3, L4, rfl, rfl, q3, q4⟩ := rl2
        obtain ⟨R3, F3, nd3, nw3, rl3⟩ := R2.setR2 R0.bx R0.pinx (by rw [List.length_set]; exact hl.2.1) hb.2.1 nd2 nw2 q3 q4
        obtain ⟨u, ur, L5, L6, rfl, rfl, q5, q6, q7⟩ := rl3
        subst q6 q7
        rw [List.append_nil] at R3 F3 nd3 nw3 q5
        obtain ⟨R4, F4⟩ := R3.setR R0.bx R0.pinx (by rw [List.length_set, List.length_set]; exact hl.2.2) hb.2.2 nd3 nw3 q5
        refine ⟨v, w, u, rfl, po.nx R4 (F1.trans (F2.trans ?_))⟩
        rw [List.append_nil] at F2 ⊢
        exact F3.trans F4
      · rw [if_neg hl] at po; exact po.elim
    · exact po.elim
end
end PD

set_option linter.all false
set_option maxRecDepth 100000
/-! PD16: a def whose first argument is an own object that it changes. -/
namespace PD
open PySem PySem.Spec PyProof.Rows L2

inductive FB where
  | ok (r : Rv) (o : O) | er (c : Str) (ns : List Str) (ds : List D) (o : O) | st
/-- all but the objects of B stands as it stood -/
structure KpB (Z : Zt) (B : List Addr) (H H' : Hp) : Prop where
  keep : ∀ a o, H a = some o → a ∉ B → (∀ ps, o ≠ .tbl ps) → H' a = some o
  ktbl : ∀ a ps, H a = some (.tbl ps) → ∃ qs, H' a = some (.tbl qs)
  tabs : LamX.Tabs Z.T H → LamX.Tabs Z.T H'
  there : ∀ a, H a ≠ none → H' a ≠ none
def spB (Z : Zt) (n : Nat) (g : O → List D → FB) : Sp := fun vs H Q E => vs.length = n + 1 ∧ ∃ (Y : Addr → Prop) (o : O) (B : List Addr) (v0 : V) (vr : List V) (ds : List D), vs = v0 :: vr ∧ (∀ a, Y a → H a ≠ none) ∧ (∀ a ∈ B, Y a) ∧ B.Nodup ∧ LamX.Tabs Z.T H ∧ OwnRep Z Y H o v0 B ∧ RepL Z Y H ds vr ∧ match g o ds with
  | .ok r o' => ∀ v H' B' L, KpB Z B H H' → B'.Nodup → (∀ b ∈ B', b ∈ B ∨ H b = none) → L.Nodup → (∀ b ∈ L, H b = none ∧ H' b ≠ none ∧ b ∉ B') → OwnRep Z (fun a => Y a ∨ a ∈ B' ∨ a ∈ L) H' o' v0 B' → RvRep Z (fun a => Y a ∨ a ∈ B' ∨ a ∈ L) H' r v L → Q v H'
  | .er c ns es o' => ∀ cls d H' B', KpB Z B H H' → B'.Nodup → (∀ b ∈ B', b ∈ B ∨ H b = none) → OwnRep Z (fun a => Y a ∨ a ∈ B') H' o' v0 B' → ExR Z (fun a => Y a ∨ a ∈ B') H' c ns es cls d → E cls d H'
  | .st => False
def GpB (Y : Addr → Prop) (H : Hp) (B : List Addr) (v0 : V) (E : XK) : Gm := ⟨Y, H, B, fun | 0 => some v0 | _ => none, fun cls d _ H' => E cls d H', fun _ _ => False⟩
/-- the object of slot 0 behind -/
def ow0 (s : S) : Option O := match s[(0 : Nat)]? with
  | some (.ow o) => some o
  | _ => none
def runB (n : Nat) (body : S → SR) (o : O) (ds : List D) : FB := match body (Sl.ow o :: ds.map Sl.fz ++ List.replicate (n - (ds.length + 1)) Sl.no) with
  | .nx s => match ow0 s with
    | some o' => .ok (.d .non) o'
    | none => .st
  | .rt r s => match ow0 s with
    | some o' => .ok r o'
    | none => .st
  | .er c ns ds s => match ow0 s with
    | some o' => .er c ns ds o'
    | none => .st
  | _ => .st
theorem ow0_ok {s : S} {o : O} (h : ow0 s = some o) : s[(0 : Nat)]? = some (.ow o) := by
  unfold ow0 at h
  split at h
  · rename_i o' e; cases h; exact e
  · cases h

section
variable {P : Program} {w : World} {Z : Zt} {base : Heap}
theorem rl_startB {Y : Addr → Prop} {H : Hp} {E : XK} {N : List Str} {o : O} {B : List Addr} {v0 : V} {ds : List D} {vs : List V} (hY : ∀ a, Y a → H a ≠ none) (hB : ∀ a ∈ B, Y a) (nB : B.Nodup) (tb : LamX.Tabs Z.T H) (r0 : OwnRep Z Y H o v0 B) (r : RepL Z Y H ds vs) :
    Rl Z (GpB Y H B v0 E) (Sl.ow o :: ds.map Sl.fz ++ List.replicate (N.length - (ds.length + 1)) Sl.no) (setL (fun _ => []) 0 B) (L2.start N (v0 :: vs)) H := by
  have hl := r.length
  have F : Fw Z Y H ((GpB Y H B v0 E).X (setL (fun _ => []) 0 B)) H := Fw.refl.less fun a h => by
    rcases h with h | ⟨i, h⟩
    · exact h
    · by_cases hi : i = 0
      · rw [hi, setL_same] at h; exact hB a h
      · rw [setL_ne hi] at h; cases h
  have s0 : ∀ i a, a ∈ setL (fun _ => ([] : List Addr)) 0 B i → i = 0 ∧ a ∈ B := fun i a h => by
    by_cases hi : i = 0
    · rw [hi, setL_same] at h; exact ⟨hi, h⟩
    · rw [setL_ne hi] at h; cases h
  refine { len := ?_, sl := fun i x hx => ?_, out := fun i hi => ?_, nd := fun i => ?_, dj := fun i j a h h2 => (s0 i a h).1.trans (s0 j a h2).1.symm, lvb := fun i a h => .inl (s0 i a h), keep := fun a o h _ _ => h, ktbl := fun a ps h => ⟨ps, h⟩, st0 := fun a h => h, x0 := hY, bx := hB, tb := tb, bor := fun i v h => ?_, pn := fun a o h => h.elim }
  · unfold L2.start; simp [hl]
  · cases i with
    | zero =>
      simp at hx
      subst hx
      rw [setL_same]
      refine ⟨v0, ?_, OwnRep.mono F (fun _ _ => rfl) r0⟩
      unfold L2.start; rfl
    | succ i =>
      rw [setL_ne (by omega)]
      rw [List.cons_append, List.getElem?_cons_succ] at hx
      by_cases hi : i < ds.length
      · rw [List.getElem?_append_left (by simpa using hi), List.getElem?_map, List.getElem?_eq_getElem hi] at hx
        cases hx
        obtain ⟨v, e, rv⟩ := r.get (List.getElem?_eq_getElem hi)
        refine ⟨rfl, v, ?_, rv.mono F⟩
        unfold L2.start
        rw [List.map_cons, List.cons_append, List.getElem?_cons_succ, List.getElem?_append_left (by simp; omega), List.getElem?_map, e]
        rfl
      · rw [List.getElem?_append_right (by simp; omega), List.getElem?_replicate] at hx
        split at hx
        · cases hx; rfl
        · cases hx
  · have : i ≠ 0 := by
      rintro rfl
      simp at hi
    exact setL_ne this
  · by_cases hi : i = 0
    · rw [hi, setL_same]; exact nB
    · rw [setL_ne hi]; exact List.nodup_nil
  · cases i with
    | zero => cases h; unfold L2.start; rfl
    | succ i => cases h
theorem okB {x qual : Str} {st : Stmt} {f : Addr} {fd : FuncData} {N ps : List Str} {k n : Nat} {body : S → SR} (F : Fun Z.K x qual st f fd) (Sc : FnScope N ps (defScope st)) (hps : ps.length = n + 1)
    (hb : ∀ (cdv : Value) (A : Around) (outer : List Env) (s : Shared) (Y : Addr → Prop) (H : Hp) (B : List Addr) (v0 : V) (E : XK), Room k (A.deeper (envOfC qual (defScope st) s.heap.objs.size f cdv)) →
      PSs (cxOf (L2.CX P w) P w Z.K Z.mg base N qual (defScope st) f cdv A outer s H E) (defBody st) (tS Z (GpB Y H B v0 E) body)) :
    FnOk P w Z.K Z.mg base (L2.CX P w) (k + 1) f fd ps (spB Z n (runB N.length body)) := by
  refine F.okX Sc (fun vs H Q E h => by rw [hps]; exact h.1) fun cdv A outer s H vs Q E hr h => ?_
  obtain ⟨hl, Y, o, B, v0, vr, ds, rfl, hY, hB, nB, tb, r0, r, po⟩ := h
  refine ⟨_, hb cdv A outer s Y H B v0 E hr, _, _, rl_startB (N := N) (E := E) hY hB nB tb r0 r, ?_⟩
  unfold runB at po
  have kp : ∀ {s' : S} {L : List Addr} {σ' : L2.St} {H' : Hp} {Lv' : Nat → List Addr}, Rl Z ((GpB Y H B v0 E).plus L) s' Lv' σ' H' → KpB Z B H H' := fun R' =>
    ⟨fun a o h n t => R'.keep a o h n t, R'.ktbl, fun _ => R'.tb, R'.st0⟩
  have own : ∀ {s' : S} {L : List Addr} {σ' : L2.St} {H' : Hp} {Lv' : Nat → List Addr} {o' : O}, Rl Z ((GpB Y H B v0 E).plus L) s' Lv' σ' H' → ow0 s' = some o' → (Lv' 0).Nodup ∧ (∀ b ∈ Lv' 0, b ∈ B ∨ H b = none) ∧ OwnRep Z (fun a => Y a ∨ a ∈ Lv' 0 ∨ a ∈ L) H' o' v0 (Lv' 0) := fun {s' L σ' H' Lv' o'} R' e => by
    obtain ⟨v, e1, e2⟩ := R'.ow (ow0_ok e)
    rw [R'.bor 0 v0 rfl] at e1
    cases e1
    refine ⟨R'.nd 0, fun b hb => (R'.lvb 0 b hb).imp (·.2) (·.1), e2.mono (Fw.refl.less fun a h => ?_) fun _ _ => rfl⟩
    rcases h with h | h | h
    · exact .inl (.inl h)
    · exact .inr ⟨0, h⟩
    · exact .inl (.inr h)
  generalize body (Sl.ow o :: ds.map Sl.fz ++ List.replicate (N.length - (ds.length + 1)) Sl.no) = b at po
  cases b with
  | nx s' =>
    intro σ' H' Lv' R' F'
    simp only at po
    cases e0 : ow0 s' with
    | none => rw [e0] at po; exact po.elim
    | some o' =>
      rw [e0] at po
      have R1 : Rl Z ((GpB Y H B v0 E).plus []) s' Lv' σ' H' := by rw [plus_nil]; exact R'
      obtain ⟨q1, q2, q3⟩ := own R1 e0
      exact po .non H' (Lv' 0) [] (kp R1) q1 q2 List.nodup_nil (fun b hb => by cases hb) q3 ⟨rfl, rep_non⟩
  | rt q s' =>
    intro v σ' H' Lv' L R' F' nd nw rr
    simp only at po
    cases e0 : ow0 s' with
    | none => rw [e0] at po; exact po.elim
    | some o' =>
      rw [e0] at po
      obtain ⟨q1, q2, q3⟩ := own R' e0
      refine po v H' (Lv' 0) L (kp R') q1 q2 nd (fun b hb => ⟨(nw b hb).2, R'.x0 b (.inr hb), fun q => (nw b hb).1 (.inr ⟨0, q⟩)⟩) q3 (rr.mono (Fw.refl.less fun a h => ?_) fun _ _ => rfl)
      rcases h with h | h | h
      · exact .inl (.inl h)
      · exact .inr ⟨0, h⟩
      · exact .inl (.inr h)
  | er c ns es s' =>
    intro cls d σ' H' Lv' R' F' x
    simp only at po
    cases e0 : ow0 s' with
    | none => rw [e0] at po; exact po.elim
    | some o' =>
      rw [e0] at po
      have R1 : Rl Z ((GpB Y H B v0 E).plus []) s' Lv' σ' H' := by rw [plus_nil]; exact R'
      obtain ⟨q1, q2, q3⟩ := own R1 e0
      have G : ∀ a, (Y a ∨ a ∈ Lv' 0) → (GpB Y H B v0 E).X Lv' a := fun a h => h.imp id fun h => ⟨0, h⟩
      refine po cls d H' (Lv' 0) (kp R1) q1 q2 (q3.mono (Fw.refl.less fun a h => h.imp id .inl) fun _ _ => rfl) ?_
      obtain ⟨C, e1, e2, e3⟩ := x
      exact ⟨C, e1, e2, e3.imp id fun ⟨dd, vs, a, b, c, d⟩ => ⟨dd, vs, a, b, c, d.mono (Fw.refl.less G)⟩⟩
  | bk s' => exact po.elim
  | ct s' => exact po.elim
  | st => exact po.elim
end

/-! ### calls -/
section
variable {Z : Zt} {Γ : Gm} {s : S} {Lv : Nat → List Addr} {σ : L2.St} {H H' : Hp}
/-- an own object of slot i is changed by a call; the objects of M are new -/
theorem Rl.putM (R : Rl Z Γ s Lv σ H) {i : Nat} {x : Sl} {L M : List Addr} (hi : i < s.length)
    (kp : ∀ a o, H a = some o → a ∉ Lv i → (∀ ps, o ≠ .tbl ps) → H' a = some o) (kt : ∀ a ps, H a = some (.tbl ps) → ∃ qs, H' a = some (.tbl qs)) (tb : LamX.Tabs Z.T H → LamX.Tabs Z.T H')
    (nd : L.Nodup) (nw : ∀ a ∈ L, a ∈ Lv i ∨ H a = none) (st : ∀ a, H a ≠ none → H' a ≠ none) (hM : ∀ b ∈ M, H b = none ∧ H' b ≠ none ∧ b ∉ L)
    (r : SloR Z ((Γ.plus M).X (setL Lv i L)) H' x σ[i]? L) : Rl Z (Γ.plus M) (s.set i x) (setL Lv i L) σ H' ∧ Fw Z (Γ.X Lv) H ((Γ.plus M).X (setL Lv i L)) H' := by
  have h0 : ∀ a, H a = none → Γ.H0 a = none := fun a h => by
    cases q : Γ.H0 a with
    | none => rfl
    | some o => exact absurd h (R.st0 a (by rw [q]; simp))
  have F : Fw Z (Γ.X Lv) H ((Γ.plus M).X (setL Lv i L)) H' := by
    refine ⟨fun a o h n t => kp a o h (fun q => n (.inr ⟨i, q⟩)) t, kt, fun a h => ?_, tb⟩
    rcases h with (h | h) | ⟨j, h⟩
    · exact .inl (.inl h)
    · exact .inr (hM a h).1
    · by_cases hj : j = i
      · subst hj
        rw [setL_same] at h
        rcases nw a h with q | q
        · exact .inl (.inr ⟨j, q⟩)
        · exact .inr q
      · rw [setL_ne hj] at h
        exact .inl (.inr ⟨j, h⟩)
  refine ⟨⟨by rw [List.length_set]; exact R.len, fun j y hy => ?_, fun j hj => ?_, fun j => ?_, fun j k a hj hk => ?_, fun j a hj => ?_, fun a o h n t => ?_, fun a ps h => ?_, fun a h => st a (R.st0 a h), fun a h => ?_, fun a h => .inl (R.bx a h), tb R.tb, R.bor, fun a o h => ?_⟩, F⟩
  · by_cases hj : j = i
    · subst hj
      rw [List.getElem?_set_self hi] at hy
      cases hy
      rw [setL_same]
      exact r
    · rw [List.getElem?_set_ne (Ne.symm hj)] at hy
      rw [setL_ne hj]
      refine (R.sl j y hy).mono F fun a ha => ?_
      have h := R.there ha
      cases q : H a with
      | none => exact absurd q h
      | some o => exact kp a o q (fun z => hj (R.dj j i a ha z)) (fun ps z => R.notbl ha (by rw [q, z]))
  · rw [List.length_set] at hj
    have hne : j ≠ i := by omega
    rw [setL_ne hne]
    exact R.out j hj
  · by_cases hj : j = i
    · subst hj; rw [setL_same]; exact nd
    · rw [setL_ne hj]; exact R.nd j
  · by_cases hj1 : j = i
    · by_cases hk1 : k = i
      · rw [hj1, hk1]
      · rw [setL_ne hk1] at hk
        rw [hj1, setL_same] at hj
        rcases nw a hj with q | q
        · exact absurd (R.dj k i a hk q) hk1
        · exact absurd q (R.there hk)
    · rw [setL_ne hj1] at hj
      by_cases hk1 : k = i
      · rw [hk1, setL_same] at hk
        rcases nw a hk with q | q
        · exact absurd (R.dj j i a hj q) hj1
        · exact absurd q (R.there hj)
      · rw [setL_ne hk1] at hk
        exact R.dj j k a hj hk
  · by_cases hj1 : j = i
    · rw [hj1, setL_same] at hj
      rcases nw a hj with q | q
      · rw [hj1]
        refine (R.lvb i a q).imp id fun z => ⟨z.1, fun y => y.elim z.2 fun y => (hM a y).2.2 hj⟩
      · exact .inr ⟨h0 a q, fun y => y.elim (fun z => R.x0 a z q) fun y => (hM a y).2.2 hj⟩
    · rw [setL_ne hj1] at hj
      exact (R.lvb j a hj).imp id fun z => ⟨z.1, fun y => y.elim z.2 fun y => R.there hj (hM a y).1⟩
  · have e := R.keep a o h n t
    refine kp a o e (fun q => ?_) t
    rcases R.lvb i a q with z | z
    · exact n z.2
    · have h : Γ.H0 a = some o := h
      rw [z.1] at h; cases h
  · obtain ⟨qs, e⟩ := R.ktbl a ps h
    exact kt a qs e
  · rcases h with h | h
    · exact st a (R.x0 a h)
    · exact (hM a h).2.1
  · obtain ⟨p1, p2, p3, p4⟩ := R.pn a o h
    refine ⟨p1.imp .inl id, p2, p3, kp a o p4 (fun q => ?_) p3⟩
    rcases R.lvb i a q with z | z
    · rcases p2 with p2 | ⟨φ, rfl⟩
      · exact p2 z.2
      · exact R.noext q p4
    · rcases p1 with p1 | ⟨φ, rfl⟩
      · exact z.2 p1
      · exact R.noext q p4
end
def isOwn (s : S) (i : Nat) : Bool := match s[i]? with
  | some (.ow _) => true
  | _ => false
theorem isOwn_ok {s : S} {i : Nat} (h : isOwn s i = true) : ∃ o, s[i]? = some (.ow o) := by
  unfold isOwn at h
  split at h
  · rename_i o e; exact ⟨o, e⟩
  · cases h
/-- behind the arguments -/
def goB (n i : Nat) (g : O → List D → FB) (ws : List W) (s1 : S) : R Rv := match fzL ws, s1[i]? with
  | some ds, some (.ow o) => if ds.length = n then (match g o ds with
    | .ok r o' => .ok r (s1.set i (.ow o'))
    | .er c ns es o' => .er c ns es (s1.set i (.ow o'))
    | .st => .st) else .st
  | _, _ => .st
def rCallB (n i : Nat) (g : O → List D → FB) (f : S → R (List W)) : S → R Rv := fun s => if isOwn s i = true then (f s).bind (goB n i g) else .st
section
variable {X : Cx} {Z : Zt} {Γ : Gm} {e : Expr} {es : List Expr} {fs : S → R (List W)} {pos p p1 : Pos} {x y : Str} {k n : Nat} {f : Addr} {fd : FuncData} {ps : List Str} {g : O → List D → FB}
theorem goB_D (i : Nat) (hE : EConst Γ) {s : S} {Lv : Nat → List Addr} {σ : L2.St} {H : Hp} {Q : VK} {ws : List W} {vs : List V} {v0 : V} (R1 : Rl Z Γ s Lv σ H) (r1 : WRepL Z (Γ.X Lv) σ H ws vs) (hv : σ[i]? = some (some v0)) 
    (po : match goB n i g ws s with
      | .ok a s' => ∀ v H' Lv' L, Rl Z (Γ.plus L) s' Lv' σ H' → Fw Z (Γ.X Lv) H ((Γ.plus L).X Lv') H' → L.Nodup → (∀ b ∈ L, ¬ Γ.X Lv' b ∧ Γ.H0 b = none) → RvRep Z ((Γ.plus L).X Lv') H' a v L → Q v H'
      | .er c ns ds s' => ∀ cls d H' Lv', Rl Z Γ s' Lv' σ H' → Fw Z (Γ.X Lv) H (Γ.X Lv') H' → ExR Z (Γ.X Lv') H' c ns ds cls d → Γ.E cls d σ H'
      | .st => False) : spB Z n g (v0 :: vs) H Q (fun cls d H => ∀ σ, Γ.E cls d σ H) := by
  unfold goB at po
  cases e1 : fzL ws with
  | none => rw [e1] at po; exact po.elim
  | some ds =>
    cases e2 : s[i]? with
    | none => rw [e1, e2] at po; exact po.elim
    | some sl =>
      cases sl with
      | no => rw [e1, e2] at po; exact po.elim
      | fz d => rw [e1, e2] at po; exact po.elim
      | ow o =>
        rw [e1, e2] at po
        simp only at po
        by_cases hl : ds.length = n
        · rw [if_pos hl] at po
          have r := fzL_ok r1 e1
          obtain ⟨v, ev, ro⟩ := R1.ow e2
          rw [hv] at ev; cases ev
          have hi : i < s.length := (List.getElem?_eq_some_iff.mp e2).1
          refine ⟨by rw [List.length_cons, ← r.length, hl], Γ.X Lv, o, Lv i, v0, vs, ds, rfl, fun a h => R1.xs h, fun a h => .inr ⟨i, h⟩, R1.nd i, R1.tb, ro, r, ?_⟩
          cases e3 : g o ds with
          | st => rw [e3] at po; exact po.elim
          | er c ns es o' =>
            rw [e3] at po
            simp only at po
            intro cls d H' B' kp nB nw ro' x σ'
            have G : ∀ a, Γ.X (setL Lv i B') a → Γ.X Lv a ∨ a ∈ B' := fun a h => by
              rcases h with h | ⟨j, h⟩
              · exact .inl (.inl h)
              · by_cases hj : j = i
                · rw [hj, setL_same] at h; exact .inr h
                · rw [setL_ne hj] at h; exact .inl (.inr ⟨j, h⟩)
            have q := R1.putM (M := []) (x := .ow o') hi kp.keep kp.ktbl kp.tabs nB nw kp.there (fun b hb => by cases hb) ⟨v0, hv, by rw [plus_nil]; exact ro'.mono (Fw.refl.less G) fun _ _ => rfl⟩
            rw [plus_nil] at q
            refine hE _ _ _ _ _ (po cls d H' _ q.1 q.2 ?_)
            obtain ⟨C, e1, e2, e3⟩ := x
            exact ⟨C, e1, e2, e3.imp id fun ⟨dd, vs, a, b, c, d⟩ => ⟨dd, vs, a, b, c, d.mono (Fw.refl.less G)⟩⟩
          | ok r' o' =>
            rw [e3] at po
            simp only at po
            intro v H' B' L kp nB nw nd nl ro' rr
            have G : ∀ a, (Γ.plus L).X (setL Lv i B') a → Γ.X Lv a ∨ a ∈ B' ∨ a ∈ L := fun a h => by
              rcases h with (h | h) | ⟨j, h⟩
              · exact .inl (.inl h)
              · exact .inr (.inr h)
              · by_cases hj : j = i
                · rw [hj, setL_same] at h; exact .inr (.inl h)
                · rw [setL_ne hj] at h; exact .inl (.inr ⟨j, h⟩)
            have q := R1.putM (M := L) (x := .ow o') hi kp.keep kp.ktbl kp.tabs nB nw kp.there nl ⟨v0, hv, ro'.mono (Fw.refl.less G) fun _ _ => rfl⟩
            refine po v H' _ L q.1 q.2 nd (fun b hb => ⟨fun z => ?_, ?_⟩) (rr.mono (Fw.refl.less G) fun _ _ => rfl)
            · rcases z with z | ⟨j, z⟩
              · exact R1.x0 b z (nl b hb).1
              · by_cases hj : j = i
                · rw [hj, setL_same] at z; exact (nl b hb).2.2 z
                · rw [setL_ne hj] at z; exact R1.there z (nl b hb).1
            · cases q : Γ.H0 b with
              | none => rfl
              | some o => exact absurd (nl b hb).1 (R1.st0 b (by rw [q]; simp))
        · rw [if_neg hl] at po; exact po.elim
theorem callB_D (i : Nat) (hE : EConst Γ) {σ : L2.St} {H : Hp} {Q : VK} (h : tR Z Γ (rCallB n i g fs) σ H Q) : tCall (spB Z n g) [] (fun cls d H => ∀ σ, Γ.E cls d σ H) (tCons (fun σ H Q => ∃ v, σ[i]? = some (some v) ∧ Q v H) (tA Z Γ fs)) σ H Q := by
  obtain ⟨s, Lv, R0, po⟩ := h
  unfold rCallB at po
  by_cases hw : isOwn s i = true
  · rw [if_pos hw] at po
    obtain ⟨o0, e0⟩ := isOwn_ok hw
    obtain ⟨v0, hv, _⟩ := R0.ow e0
    refine ⟨v0, hv, s, Lv, R0, ?_⟩
    cases e1 : fs s with
    | st => rw [e1] at po; exact po.elim
    | er c ns ds s1 => rw [e1] at po; exact po
    | ok ws s1 =>
      rw [e1] at po
      simp only [PD.R.bind_ok] at po
      intro vs H1 Lv1 R1 F1 r1
      show spB Z n g ((v0 :: vs) ++ []) H1 Q _
      rw [List.append_nil]
      refine goB_D i hE R1 r1 hv ?_
      revert po
      generalize goB n i g ws s1 = q
      intro po
      cases q with
      | st => exact po
      | er c ns ds s2 => exact fun cls d H' Lv' R' F' x => po cls d H' Lv' R' (F1.trans F') x
      | ok a s2 => exact fun v H' Lv' L R' F' => po v H' Lv' L R' (F1.trans F')
  · rw [if_neg hw] at po; exact po.elim
/-- f(x, e, ..), x the name of an own object that f changes -/
theorem dr_callB (i : Nat) (F : FnOk X.prog X.w X.K X.mg X.base (L2.CX X.prog X.w) k f fd ps (spB Z n g)) (hr : Room k X.A) (hg : Gl X x) (hm : X.mg x = some (.ref f)) (hk : PySem.W.keepIn X.K (.ref f) = true) (hb : Binds X.K fd ps []) (px : PX X Γ) (hE : EConst Γ)
    (ha : PA X es (tA Z Γ fs)) (hN : X.N[i]? = some y := by rfl) (hv : Vis X.env.scope y := by first | exact Or.inl rfl | exact Or.inr (Or.inl rfl) | exact Or.inr (Or.inr rfl)) (hd : (y == ("__debug__" : Str)) = false := by decide) (hcd : (y == ("__classdict__" : Str)) = false := by decide)
    (hdb : (x == ("__debug__" : Str)) = false := by decide) (he : starEach (.Name y p1 :: es) X.env = (false, eval (.Name y p1) X.env) :: starEach es X.env := by rfl) (hpl : (backTo pos (starEach es X.env)).any (·.1) = false := by rfl) :
    PE X (.Call (.Name x p) (.Name y p1 :: es) [] pos) (tR Z Γ (rCallB n i g fs)) :=
  pe_imp (pe_call F hr hg hm hk hb .nil px (pa_cons (pv i hN hv hd hcd) ha he) hdb he hpl) fun _ _ _ h => callB_D i hE h
theorem de_callO (i : Nat) (F : FnOk X.prog X.w X.K X.mg X.base (L2.CX X.prog X.w) k f fd ps (spB Z n g)) (hr : Room k X.A) (hg : Gl X x) (hm : X.mg x = some (.ref f)) (hk : PySem.W.keepIn X.K (.ref f) = true) (hb : Binds X.K fd ps []) (px : PX X Γ) (hE : EConst Γ)
    (ha : PA X es (tA Z Γ fs)) (hN : X.N[i]? = some y := by rfl) (hv : Vis X.env.scope y := by first | exact Or.inl rfl | exact Or.inr (Or.inl rfl) | exact Or.inr (Or.inr rfl)) (hd : (y == ("__debug__" : Str)) = false := by decide) (hcd : (y == ("__classdict__" : Str)) = false := by decide)
    (hdb : (x == ("__debug__" : Str)) = false := by decide) (he : starEach (.Name y p1 :: es) X.env = (false, eval (.Name y p1) X.env) :: starEach es X.env := by rfl) (hpl : (backTo pos (starEach es X.env)).any (·.1) = false := by rfl) :
    PE X (.Call (.Name x p) (.Name y p1 :: es) [] pos) (tE Z Γ (eFz (rCallB n i g fs))) := de_fz (dr_callB i F hr hg hm hk hb px hE ha hN hv hd hcd hdb he hpl)
theorem econst_B {Y : Addr → Prop} {H : Hp} {B : List Addr} {v0 : V} {E : XK} : EConst (GpB Y H B v0 E) := fun _ _ _ _ _ h => h
end
end PD

set_option linter.all false
set_option maxRecDepth 100000
/-! PD17: stores into own lists and dicts; dicts read. -/
namespace PD
open PySem PySem.Spec PyProof.Rows L2

section
variable {κ α β : Type} [DecidableEq κ]
def dgetK : List κ → List α → κ → Option α
  | x :: ks, v :: vs, k => if x = k then some v else dgetK ks vs k
  | _, _, _ => none
def hasK (ks : List κ) (k : κ) : Bool := ks.any fun x => decide (x = k)
def replK : List κ → List α → κ → α → List α
  | x :: ks, v :: vs, k, d => (if x = k then d else v) :: replK ks vs k d
  | _, _, _, _ => []
def putKs (ks : List κ) (k : κ) : List κ := if hasK ks k = true then ks else ks ++ [k]
def putVs (ks : List κ) (vs : List α) (k : κ) (d : α) : List α := if hasK ks k = true then replK ks vs k d else vs ++ [d]
theorem hasK_zip (k : κ) : ∀ (ks : List κ) (vs : List V), ks.length = vs.length → ((ks.zip vs).any fun kv => decide (kv.1 = k)) = hasK ks k
  | [], _, _ => rfl
  | x :: ks, [], h => by simp at h
  | x :: ks, v :: vs, h => by
    have := hasK_zip k ks vs (by simpa using h)
    simp only [hasK] at this
    simp only [List.zip_cons_cons, List.any_cons, hasK, this]
theorem replK_zip (k : κ) (d : V) : ∀ (ks : List κ) (vs : List V), ks.length = vs.length → ((ks.zip vs).map fun kv => if kv.1 = k then (kv.1, d) else kv) = ks.zip (replK ks vs k d)
  | [], _, _ => rfl
  | x :: ks, [], h => by simp at h
  | x :: ks, v :: vs, h => by
    have := replK_zip k d ks vs (by simpa using h)
    simp only [List.zip_cons_cons, List.map_cons, replK, this]
    by_cases e : x = k
    · rw [if_pos e, if_pos e]
    · rw [if_neg e, if_neg e]
theorem replK_length {k : κ} {d : α} : ∀ {ks : List κ} {vs : List α}, ks.length = vs.length → (replK ks vs k d).length = vs.length
  | [], [], _ => rfl
  | [], v :: vs, h => by simp at h
  | x :: ks, [], h => by simp at h
  | x :: ks, v :: vs, h => by simp only [replK, List.length_cons, replK_length (ks := ks) (vs := vs) (by simpa using h)]
theorem putK_zip (k : κ) (d : V) (ks : List κ) (vs : List V) (h : ks.length = vs.length) : putK (ks.zip vs) k d = (putKs ks k).zip (putVs ks vs k d) := by
  unfold putK putKs putVs
  rw [hasK_zip k ks vs h]
  by_cases e : hasK ks k = true
  · rw [if_pos e, if_pos e, if_pos e, replK_zip k d ks vs h]
  · rw [if_neg e, if_neg e, if_neg e, List.zip_append h]; rfl
theorem put_length {k : κ} {d : α} {ks : List κ} {vs : List α} (h : ks.length = vs.length) : (putKs ks k).length = (putVs ks vs k d).length := by
  unfold putKs putVs
  split
  · rw [replK_length h, h]
  · rw [List.length_append, List.length_append, h]; rfl
variable {Z : Zt} {Y : Addr → Prop} {H : Hp}
theorem replK_rep {k : κ} {d : D} {v : V} (r : Rep Z Y H d v) : ∀ {ks : List κ} {ds : List D} {vs : List V}, RepL Z Y H ds vs → RepL Z Y H (replK ks ds k d) (replK ks vs k v)
  | [], ds, vs, h => by cases ds <;> cases vs <;> simp only [replK, RepL]
  | x :: ks, [], vs, h => by simp only [RepL] at h; subst h; simp only [replK, RepL]
  | x :: ks, e :: ds, vs, h => by
    simp only [RepL] at h
    obtain ⟨u, ur, rfl, r1, h⟩ := h
    simp only [replK, RepL]
    refine ⟨_, _, rfl, ?_, replK_rep r h⟩
    split
    · exact r
    · exact r1
theorem put_rep {k : κ} {d : D} {v : V} {ks : List κ} {ds : List D} {vs : List V} (r : Rep Z Y H d v) (h : RepL Z Y H ds vs) : RepL Z Y H (putVs ks ds k d) (putVs ks vs k v) := by
  unfold putVs
  split
  · exact replK_rep r h
  · exact h.app (RepL.one r)
theorem dgetK_rep {k : κ} : ∀ {ks : List κ} {ds : List D} {vs : List V} {d : D}, RepL Z Y H ds vs → dgetK ks ds k = some d → ∃ v, valV (ks.zip vs) k = some v ∧ Rep Z Y H d v
  | [], ds, vs, d, h, e => by cases ds <;> cases e
  | x :: ks, [], vs, d, h, e => by cases e
  | x :: ks, c :: ds, vs, d, h, e => by
    simp only [RepL] at h
    obtain ⟨u, ur, rfl, r1, h⟩ := h
    simp only [dgetK] at e
    rw [List.zip_cons_cons]
    by_cases q : x = k
    · rw [if_pos q] at e
      cases e
      exact ⟨u, valV_pos q, r1⟩
    · rw [if_neg q] at e
      rw [valV_neg (p := (x, u)) q]
      exact dgetK_rep h e
theorem hasK_val {k : κ} {ks : List κ} {vs : List V} (h : ks.length = vs.length) : (valV (ks.zip vs) k).isSome = hasK ks k := by
  rw [← valV_any, hasK_zip k ks vs h]
end

def keyD : D → Option Key
  | .int i => some (.inl i)
  | .str s => some (.inr s)
  | _ => none
theorem keyD_rep {Z : Zt} {Y : Addr → Prop} {H : Hp} {d : D} {v : V} {k : Key} (h : Vw Z Y H d v) (e : keyD d = some k) : v = kV k := by
  cases d <;> first | (cases e; done) | skip
  · cases e; exact vw_int h
  · cases e; exact vw_str h
def O.put : O → D → D → Option O
  | .lst ds, .int n, d => (ixN ds.length n).map fun j => .lst (ds.set j d)
  | .dic ks vs, k, d => (keyD k).bind fun k => if vs.length < lim then some (.dic (putKs ks k) (putVs ks vs k d)) else none
  | _, _, _ => none
/-- x[e] as a target, x an own list or dict -/
def gSet (i : Nat) (f : S → R W) : D → S → R Unit := fun d s => if isOwn s i = true then (f s).bind fun w s1 => match fzW w, s1[i]? with
  | some k, some (.ow o) => (match o.put k d with
    | some o' => .ok () (s1.set i (.ow o'))
    | none => .st)
  | _, _ => .st else .st
def rSet2 : TSet := fun o i v H Q => rSetL o i v H Q ∨ rSetD o i v H Q
theorem set_two {X : Cx} (hu : X.A.units + 1 < cLine) : PSet X rSet2 := fun pins s σ H o i v ov iv u Q I ro ri rv h => by
  rcases h with h | h
  · exact set_list pins s σ H o i v ov iv u Q I ro ri rv h
  · exact set_dict hu pins s σ H o i v ov iv u Q I ro ri rv h
theorem RepL.set {Z : Zt} {Y : Addr → Prop} {H : Hp} {d : D} {v : V} (r : Rep Z Y H d v) : ∀ {ds : List D} {vs : List V} (j : Nat), RepL Z Y H ds vs → RepL Z Y H (ds.set j d) (vs.set j v)
  | [], vs, j, h => by simp only [RepL] at h; subst h; simp only [List.set_nil, RepL]
  | e :: ds, vs, 0, h => by
    simp only [RepL] at h
    obtain ⟨u, ur, rfl, r1, h⟩ := h
    simp only [List.set_cons_zero, RepL]
    exact ⟨_, _, rfl, r, h⟩
  | e :: ds, vs, j + 1, h => by
    simp only [RepL] at h
    obtain ⟨u, ur, rfl, r1, h⟩ := h
    simp only [List.set_cons_succ, RepL]
    exact ⟨_, _, rfl, r1, RepL.set r j h⟩
section
variable {X : Cx} {Z : Zt} {Γ : Gm} {e i : Expr} {fa : S → R W} {pos p1 : Pos} {x : Str}
theorem put_D {s : S} {Lv : Nat → List Addr} {σ : L2.St} {H : Hp} {n : Nat} {o o' : O} {k d : D} {v0 kv v : V} {Q : Hp → Prop} (R1 : Rl Z Γ s Lv σ H) (e2 : s[n]? = some (.ow o)) (hv : σ[n]? = some (some v0)) (rk : Rep Z (Γ.X Lv) H k kv) (rd : Rep Z (Γ.X Lv) H d v) (e3 : o.put k d = some o')
    (po : ∀ H', Rl Z Γ (s.set n (.ow o')) Lv σ H' → Fw Z (Γ.X Lv) H (Γ.X Lv) H' → Q H') : rSet2 v0 kv v H Q := by
  unfold O.put at e3
  split at e3
  · rename_i ds m
    obtain ⟨a, vs, p1, p2, p3, p4⟩ := R1.lstAt e2
    rw [hv] at p1; cases p1
    cases e4 : ixN ds.length m with
    | none => rw [e4] at e3; cases e3
    | some j =>
      rw [e4] at e3; cases e3
      simp only [Rep] at rk
      subst rk
      obtain ⟨R2, F2⟩ := R1.lstPut (ds' := ds.set j d) (vs' := vs.set j v) e2 hv p2 p3 (p4.set rd j)
      exact .inl ⟨a, vs, m, j, rfl, rfl, p3, by rw [← p4.length]; exact e4, po _ R2 F2⟩
  · rename_i ks vs
    cases e4 : keyD k with
    | none => rw [e4] at e3; cases e3
    | some k' =>
      rw [e4] at e3
      simp only [Option.bind_some] at e3
      by_cases hl : vs.length < lim
      · rw [if_pos hl] at e3
        cases e3
        obtain ⟨v1, e5, a, us, rfl, q2, q3, q4, q5⟩ := R1.ow e2
        rw [hv] at e5; cases e5
        have ek := keyD_rep (.inl rk) e4
        subst ek
        have hlen : (ks.zip us).length < sizeLine := by
          rw [List.length_zip, q3, Nat.min_self, ← q5.length]
          exact lim_lt hl
        have pz := putK_zip k' v ks us q3
        obtain ⟨R2, F2⟩ := R1.ownPut (x := .dic (putKs ks k') (putVs ks vs k' d)) (o' := .dK (putK (ks.zip us) k' v)) (List.getElem?_eq_some_iff.mp e2).1 (by rw [q2]; simp) q4 (fun ps z => by cases z) (fun c q z => by cases z)
          fun F => ⟨_, hv, a, putVs ks us k' v, rfl, q2, put_length q3, by rw [upd_same, pz], (put_rep rd q5).mono F⟩
        exact .inr ⟨a, _, rfl, DPut.k q4 hlen, po _ R2 F2⟩
      · rw [if_neg hl] at e3; cases e3
  · cases e3
theorem dg_set (n : Nat) (hu : X.A.units + 1 < cLine) (hi : PE X i (tE Z Γ fa)) (hN : X.N[n]? = some x := by rfl) (hv : Vis X.env.scope x := by first | exact Or.inl rfl | exact Or.inr (Or.inl rfl) | exact Or.inr (Or.inr rfl)) (hd : (x == ("__debug__" : Str)) = false := by decide)
    (hcd : (x == ("__classdict__" : Str)) = false := by decide) (ha : ∀ v, assign (.Subscript (.Name x p1) i pos) X.env v = (do
      let ov ← holding [v] (eval (.Name x p1) X.env)
      let iv ← holding [v, ov] (eval i X.env)
      standAt pos
      holding [v, ov, iv] (setItem ov iv v)
      release [v, ov, iv] []) := by intro _; rfl) : PG X (.Subscript (.Name x p1) i pos) (tG Z Γ [] (gSet n fa)) := by
  refine pg_imp (pg_sub (pv n hN hv hd hcd) hi (set_two hu) ha) fun v σ H Q h => ?_
  obtain ⟨s, Lv, d, R0, r, po⟩ := h
  unfold gSet at po
  by_cases hw : isOwn s n = true
  · rw [if_pos hw] at po
    obtain ⟨o0, e0⟩ := isOwn_ok hw
    obtain ⟨v0, hv0, _⟩ := R0.ow e0
    refine ⟨v0, hv0, s, Lv, R0, ?_⟩
    cases e1 : fa s with
    | st => rw [e1] at po; exact po.elim
    | er c ns ds s1 => rw [e1] at po; exact po.elim
    | ok w s1 =>
      rw [e1] at po
      simp only [PD.R.bind_ok] at po
      intro kv H1 Lv1 R1 F1 r1
      cases e2 : fzW w with
      | none => rw [e2] at po; exact po.elim
      | some k =>
        cases e3 : s1[n]? with
        | none => rw [e2, e3] at po; exact po.elim
        | some sl =>
          cases sl with
          | no => rw [e2, e3] at po; exact po.elim
          | fz d => rw [e2, e3] at po; exact po.elim
          | ow o =>
            rw [e2, e3] at po
            simp only at po
            cases e4 : o.put k d with
            | none => rw [e4] at po; exact po.elim
            | some o' =>
              rw [e4] at po
              exact put_D R1 e3 hv0 (fz_ok r1 e2) (r.mono F1) e4 fun H' R2 F2 => po σ H' Lv1 R2 (F1.trans F2) ⟨rfl, fun _ _ => rfl⟩
  · rw [if_neg hw] at po; exact po.elim
end

/-! ### dicts read -/
def gIx2 : List D → Option D
  | [.dic ks vs, k] => (keyD k).bind fun k => dgetK ks vs k
  | ds => gIx ds
def gIn2 : List D → Option D
  | [k, .dic ks _] => (keyD k).map fun k => .bl (hasK ks k)
  | ds => gIn ds
def gNotIn2 : List D → Option D
  | [k, .dic ks _] => (keyD k).map fun k => .bl (!hasK ks k)
  | ds => gNotIn ds
section
variable {X : Cx} {Z : Zt}
theorem od_ix2 (hK : X.K = Z.K) (hu : X.A.units + 1 < cLine) : IxR X (rD2 Z gIx2) := by
  intro a0 b0 pins s σ H x y v u Q I rx ry h
  obtain ⟨Xs, ds, d, hx, hv, hg, q⟩ := h
  unfold gIx2 at hg
  split at hg
  · rename_i ks vs k
    obtain ⟨d1, d2, e, h1, h2⟩ := vw2 hv
    cases e
    cases e1 : keyD k with
    | none => rw [e1] at hg; cases hg
    | some k' =>
      rw [e1] at hg
      simp only [Option.bind_some] at hg
      have ek := keyD_rep h2 e1
      subst ek
      obtain ⟨a, us, rfl, hl, ha, r⟩ := vw_dic h1
      obtain ⟨w, e2, r2⟩ := dgetK_rep (ks := ks) r hg
      have g : DGet H a (kV k') (some w) := by rw [← e2]; exact DGet.k ha
      intro hs
      cases rx
      unfold subscriptTail
      have hT := dict_typeIs I g
      refine wpAny_bind ?_
      rw [getitemInPython_of_ne hT.not_modules]
      refine wpAny_bind (wpAny_specialOf hT PySem.F.slot_dict_getitem.lookup ?_)
      have fin : wpAny (model X.prog X.w) X.A (subscripted b0 false (.ref a) u) (fun r s₃ => wpAny (model X.prog X.w) X.A (letTemporaryGo a0 (.ref a) r >>= fun _ => pure r) (EP X pins σ Q) X.xe s₃) X.xe s := by
        rw [hs]
        exact wpAny_operating (d_getItem hu I g ry fun w' s3 I3 rw' => wpAny_bind (wpAny_letTemporaryGo (wpAny_pure ⟨w, H, I3, rw', q _ H (Same.refl H) r2⟩)))
      first
        | exact wpAny_pure (wpAny_bind fin)
        | exact wpAny_bind (wpAny_pure (wpAny_bind fin))
        | exact wpAny_bind fin
  · exact od_ix hK a0 b0 pins s σ H x y v u Q I rx ry ⟨Xs, ds, d, hx, hv, hg, q⟩
theorem od_in2 (hK : X.K = Z.K) (hu : X.A.units + 65 < cLine) : OpR X (compareOp .In) (rD2 Z gIn2) := by
  intro pins s σ H x y v u Q I rx ry h
  obtain ⟨Xs, ds, d, hx, hv, hg, q⟩ := h
  unfold gIn2 at hg
  split at hg
  · rename_i k ks vs
    obtain ⟨d1, d2, e, h1, h2⟩ := vw2 hv
    cases e
    cases e1 : keyD k with
    | none => rw [e1] at hg; cases hg
    | some k' =>
      rw [e1] at hg
      cases hg
      have ek := keyD_rep h1 e1
      subst ek
      obtain ⟨a, us, rfl, hl, ha, r⟩ := vw_dic h2
      cases ry
      exact d_in (by omega) I (DGet.k ha) rx fun s' I' => ⟨.bl (valV (ks.zip us) k').isSome, H, I', rfl, q _ H (Same.refl H) (by rw [hasK_val hl]; exact rep_bl)⟩
  · exact od_in hK hu pins s σ H x y v u Q I rx ry ⟨Xs, ds, d, hx, hv, hg, q⟩
theorem od_notIn2 (hK : X.K = Z.K) (hu : X.A.units + 65 < cLine) : OpR X (compareOp .NotIn) (rD2 Z gNotIn2) := by
  intro pins s σ H x y v u Q I rx ry h
  obtain ⟨Xs, ds, d, hx, hv, hg, q⟩ := h
  unfold gNotIn2 at hg
  split at hg
  · rename_i k ks vs
    obtain ⟨d1, d2, e, h1, h2⟩ := vw2 hv
    cases e
    cases e1 : keyD k with
    | none => rw [e1] at hg; cases hg
    | some k' =>
      rw [e1] at hg
      cases hg
      have ek := keyD_rep h1 e1
      subst ek
      obtain ⟨a, us, rfl, hl, ha, r⟩ := vw_dic h2
      cases ry
      exact d_notIn (by omega) I (DGet.k ha) rx fun s' I' => ⟨.bl (!(valV (ks.zip us) k').isSome), H, I', rfl, q _ H (Same.refl H) (by rw [hasK_val hl]; exact rep_bl)⟩
  · exact od_notIn hK hu pins s σ H x y v u Q I rx ry ⟨Xs, ds, d, hx, hv, hg, q⟩
end
end PD

set_option linter.all false
set_option maxRecDepth 100000
set_option maxHeartbeats 2000000
/-! PD18: a lambda that is handed to a def, which calls it. -/
namespace PD
open PySem PySem.Spec PyProof.Rows L2 LamX NdefX

/-- the function object of a lambda -/
def LamO (f : Addr) (F : NF) (e : Expr) : HO := .ext fun h => ∃ pm ctv : Value, h.get? f = some (PySem.W.kla_obj F.name F.qual F.params e F.scope F.cl pm F.c ctv)
theorem lamO_ne {f : Addr} {F : NF} {e : Expr} (ps : Array Value) : LamO f F e ≠ .tbl ps := fun z => by
  unfold LamO at z
  cases z
theorem lamO_at {P : Program} {w : World} {H : Hp} {h : Heap} {f : Addr} {F : NF} {b : Expr} (ok : HOk P w H h) (e : H f = some (LamO f F b)) : ∃ pm ctv : Value, h.get? f = some (PySem.W.kla_obj F.name F.qual F.params b F.scope F.cl pm F.c ctv) := (ok f _ e).1
section
variable {X : Cx} {pins : List (Addr × Obj)} {σ : L2.St} {H : Hp} {s : Shared}
theorem inv_lam {F : NF} {b : Expr} {o : Obj} {t' : Nat} {pm ctv : Value} (I : Inv X pins σ H s) (ho : o = PySem.W.kla_obj F.name F.qual F.params b F.scope F.cl pm F.c ctv) :
    Inv X pins σ (upd H s.heap.objs.size (LamO s.heap.objs.size F b)) { s with heap := s.heap.push o, toks := t' } := by
  subst ho
  have e : (s.heap.push (PySem.W.kla_obj F.name F.qual F.params b F.scope F.cl pm F.c ctv)).get? s.heap.objs.size = some (PySem.W.kla_obj F.name F.qual F.params b F.scope F.cl pm F.c ctv) := Heap.get?_push_size _ rfl
  exact I.laid (fun _ _ q => Heap.get?_push_of_some _ q) (Nat.le_refl _) ⟨⟨pm, ctv, e⟩, ⟨_, e⟩, fun _ _ ⟨p, t, z⟩ st => ⟨p, t, st _ z⟩⟩
/-- what the frame at hand makes of a lambda's text -/
abbrev nfOf (X : Cx) (params : Arguments) (scope : Scope) (c' : Addr) : NF := ⟨"<lambda>", X.env.qual ++ "<lambda>", params, [], scope, cloFrom X.env.cells scope.names [], c'⟩
theorem lam_make {T : List (Addr × Str)} {c P : Addr} {params : Arguments} {body : Expr} {scope : Scope} {pos : Pos} {E Q : Value → Shared → Prop} (I : Inv X pins σ H s) (TB : TabB X.base X.mg c P) (hcode : X.env.code = .ref c)
    (hm : (P, X.env.qual ++ "<lambda>") ∈ T) (hu : ∀ p ∈ T, p.1 = P → p.2 = X.env.qual ++ "<lambda>") (hT : Tabs T H) (hdef : defaultsOf params X.env = ([], [])) (hfree : ∀ y ∈ scope.names, y.2 = .free → ∃ c, X.env.cells.lookup y.1 = some c)
    (go : ∀ (f c' : Addr) (K1 : Hp) (s' : Shared), Inv X pins σ K1 s' → ExtN H K1 → (∀ q ps, H q = some (.tbl ps) → ∃ qs, K1 q = some (.tbl qs)) → Tabs T K1 → H f = none → H c' = none ∨ H c' = some (CodeO c' (X.env.qual ++ "<lambda>")) → f ≠ c' →
      K1 f = some (LamO f (nfOf X params scope c') body) → K1 c' = some (CodeO c' (X.env.qual ++ "<lambda>")) → Q (.ref f) s') :
    wpAny (model X.prog X.w) X.A (eval (.Lambda params body scope pos) X.env) Q E s := by
  obtain ⟨qs, tP, tok, tall⟩ := hT _ hm
  refine PySem.W.kla_eval hdef ?_
  have gP := I.hok P _ tP
  have gP : s.heap.get? P = some { cls := .none, data := .fields qs } := gP
  have bl : s.heap.BuiltinsAt X.mg P := TB.bm.keeps I.bk
  cases hc : codeAmong pos qs.toList with
  | none =>
    refine PySem.W.kla_makeFunction (mg := X.mg) (c := c) (P := P) (ps := qs) (closure_ok hfree) I.ok.glob (I.mod.glob.keeps I.bk) hcode (TB.code.keeps I.bk) gP tok hc TB.gP bl fun d ctv hp tk grow lo hi rec_ tab_ => ?_
    obtain ⟨d2, od, ws, t, z, g1, g2, g3⟩ := rec_
    cases z
    have fresh : H d = none := I.hok.fresh lo
    have J := inv_table (t' := tk) (more := #[rawInt pos.line, rawInt pos.col, .ref d]) (h' := hp) I tP (fun b o n q => grow b o n q) tab_ lo ⟨od, ws, t, g1, g2, g3⟩
    generalize hH1 : upd (upd H P (.tbl (qs ++ #[rawInt pos.line, rawInt pos.col, .ref d]))) d (CodeO d (X.env.qual ++ "<lambda>")) = H1 at J
    have old : ExtN H H1 := fun b o q n => by
      rw [← hH1, upd_ne (ne_of_none q fresh), upd_ne (fun z => n qs (Option.some.inj (q.symm.trans (by rw [z]; exact tP))))]
      exact q
    have nP : P ≠ d := fun z => by rw [z, fresh] at tP; cases tP
    have atP : H1 P = some (.tbl (qs ++ #[rawInt pos.line, rawInt pos.col, .ref d])) := by rw [← hH1, upd_ne nP, upd_same]
    have atd : H1 d = some (CodeO d (X.env.qual ++ "<lambda>")) := by rw [← hH1, upd_same]
    have lst : (qs ++ #[rawInt pos.line, rawInt pos.col, .ref d]).toList = qs.toList ++ [rawInt pos.line, rawInt pos.col, .ref d] := by simp
    have tabs : Tabs T H1 := fun p hp => by
      by_cases hb : p.1 = P
      · rw [hu p hp hb, hb]
        refine ⟨_, atP, by rw [lst]; exact PySem.TriplesOk_snoc _ _ _ _ tok, fun p' cv q => ?_⟩
        rw [lst] at q
        rcases among_app _ tok q with z | z
        · obtain ⟨c0, e1, e2⟩ := tall p' cv z
          exact ⟨c0, e1, old _ _ e2 codeO_ne⟩
        · exact ⟨d, z, atd⟩
      · obtain ⟨us, a1, a2, a3⟩ := hT p hp
        refine ⟨us, ?_, a2, fun p' cv q => ?_⟩
        · rw [← hH1, upd_ne (ne_of_none a1 fresh), upd_ne hb]; exact a1
        · obtain ⟨c0, e1, e2⟩ := a3 p' cv q
          exact ⟨c0, e1, old _ _ e2 codeO_ne⟩
    have nf := J.hok.fresh (Nat.le_refl _)
    have J2 := inv_lam (F := nfOf X params scope d) (b := body) (t' := tk) (pm := (X.mg "__name__").getD .none) (ctv := ctv) J rfl
    have ne : ∀ b o, H1 b = some o → upd H1 hp.objs.size (LamO hp.objs.size (nfOf X params scope d) body) b = some o := fun b o q => (upd_ne (ne_of_none q nf)).trans q
    refine go hp.objs.size d _ _ J2 (fun b o q n => ne b o (old b o q n)) (fun q ps e => ?_) (tabs.ext ne) (I.hok.fresh (Nat.le_trans lo (Nat.le_of_lt hi))) (.inl fresh) (Nat.ne_of_gt hi) upd_same (ne _ _ atd)
    by_cases hb : q = P
    · exact ⟨_, by rw [hb]; exact ne _ _ atP⟩
    · refine ⟨ps, ne _ _ ?_⟩
      rw [← hH1, upd_ne (ne_of_none e fresh), upd_ne hb]; exact e
  | some cv =>
    obtain ⟨d, z, hco⟩ := tall pos cv hc
    subst z
    refine PySem.W.kla_makeFunctionHit (mg := X.mg) (c := c) (P := P) (ps := qs) (closure_ok hfree) I.ok.glob (I.mod.glob.keeps I.bk) hcode (TB.code.keeps I.bk) gP tok hc bl fun ctv hp tk grow big => ?_
    have J : Inv X pins σ H { s with heap := hp, toks := tk } := I.kept grow
    have nf : H hp.objs.size = none := J.hok.fresh (Nat.le_refl _)
    have J2 := inv_lam (F := nfOf X params scope d) (b := body) (t' := tk) (pm := (X.mg "__name__").getD .none) (ctv := ctv) J rfl
    have ne : ∀ b o, H b = some o → upd H hp.objs.size (LamO hp.objs.size (nfOf X params scope d) body) b = some o := fun b o q => (upd_ne (ne_of_none q nf)).trans q
    exact go hp.objs.size d _ _ J2 (fun b o q _ => ne b o q) (fun q ps e => ⟨ps, ne _ _ e⟩) (hT.ext ne) nf (.inr hco) (fun z => by rw [z, hco] at nf; cases nf) upd_same (ne _ _ hco)
end

/-- what the captured cells held at the entry they hold still -/
theorem cells_still {X : Cx} {pins : List (Addr × Obj)} {σ : L2.St} {H : Hp} {s : Shared} {cl : List (Str × Addr)} {fr : List Str} {ws : List (Option V)} (C : CellsAt cl fr ws X.s_0.heap X.H_0) (hx : X.ex = []) (I : Inv X pins σ H s) : CellsAt cl fr ws s.heap H := by
  have nx : ∀ c : Addr, c ∉ X.ex := fun c => by rw [hx]; simp
  have same : ∀ y c, cl.lookup y = some c → ∀ v, X.s_0.heap.IsCell c v → s.heap.IsCell c v := fun y c e v ⟨o, ho, hd⟩ => by
    obtain ⟨sl, q⟩ := I.base.any ho (C.all y c e).1 (nx c)
    exact ⟨_, q, hd⟩
  refine ⟨C.len, fun y c e => ?_, C.inj, fun i y e => ?_⟩
  · obtain ⟨n, v, z⟩ := C.all y c e
    refine ⟨?_, v, same y c e v z⟩
    obtain ⟨o, ho, _⟩ := z
    exact I.base.free c o ho n (nx c)
  · obtain ⟨c, hc, hv⟩ := C.has i y e
    exact ⟨c, hc, fun v ev => let ⟨u, r, z⟩ := hv v ev; ⟨u, r, same y c hc _ z⟩⟩
section
variable {X : Cx} {f : Addr} {F : NF} {b : Expr} {Np ps fr : List Str} {ws : List (Option V)} {k i : Nat} {tb : TE} {a : Str} {e1 : Expr} {es : List Expr} {t : TA} {p1 p2 : Pos}
/-- a(e1, ..), a a name that holds a lambda -/
theorem pe_lam2 (S : NScope Np ps fr F.scope) (C : CellsAt F.cl fr ws X.s_0.heap X.H_0) (hx : X.ex = []) (hr : Room (k + 1) X.A)
    (hb : ∀ (pm ctv : Value) (us : List Value), us.length = ps.length → bindArgs (PySem.W.kla_fn F.name F.qual F.params b F.scope F.cl pm (.ref F.c) ctv) ⟨us, []⟩ = pure (ps.zip us))
    (body : ∀ (A : Around) (outer : List Env) (s : Shared) (H : Hp), Room k (A.deeper (envF F f s.heap.objs.size)) → PE (ncx (L2.CX X.prog X.w) X.prog X.w X.K X.mg X.base Np F f A outer s H (fun _ _ _ => False)) b tb)
    (ha : PA X (e1 :: es) t) (hN : X.N[i]? = some a) (hv : Vis X.env.scope a) (hd : (a == ("__debug__" : Str)) = false := by decide) (hcd : (a == ("__classdict__" : Str)) = false := by decide)
    (he : starEach (e1 :: es) X.env = (false, eval e1 X.env) :: starEach es X.env := by rfl) (hpl : (backTo p2 (starEach es X.env)).any (·.1) = false := by rfl) :
    PE X (.Call (.Name a p1) (e1 :: es) [] p2) (fun σ H Q => σ[i]? = some (some (.ref f)) ∧ H f = some (LamO f F b) ∧ t σ H fun vs H1 => H1 f = some (LamO f F b) ∧ H1 F.c = some (CodeO F.c F.qual) ∧ vs.length = ps.length ∧ tb (startF Np vs ws) H1 Q) := by
  refine ⟨fun pins s σ H Q I h => ?_⟩
  obtain ⟨hs, hf, ht⟩ := h
  have at_ : ∀ {pins : List (Addr × Obj)} {s : Shared} {H : Hp}, Inv X pins σ H s → H f = some (LamO f F b) → PySem.W.FnAt f s.heap := fun I e => by
    obtain ⟨pm, ctv, ho⟩ := lamO_at I.hok e
    exact ⟨_, _, _, _, ho⟩
  refine wpAny_Call_Name_kw (thn ((pe_var (pos := p1) hN hv hd hcd).run pins s σ H (fun v K1 => v = .ref f ∧ K1 = H) I ⟨.ref f, hs, rfl, rfl⟩) fun u s1 ⟨v, K1, I1, r1, q1⟩ => ?_)
  obtain ⟨ev, eH⟩ := q1
  subst ev
  rw [eH] at I1
  obtain rfl : u = Value.ref f := r1
  refine PySem.W.callWith_F (first := []) (at_ I1 hf) (thn (ha.run p2 pins s1 σ H _ I1 ht) fun us s2 ⟨vs, H2, I2, r, h1, h2, hl, q⟩ => ⟨at_ I2 h1, ?_⟩) he hpl
  show wpAny _ _ (call (.ref f) us) _ _ _
  have lim : s2.heap.NoLimit := I2.nolimit
  obtain ⟨pm, ctv, ho⟩ := lamO_at I2.hok h1
  have C2 := cells_still C hx I2
  have e0 := I2.env0
  have run : codeAny (model X.prog X.w) X.A (.call (.ref f) ⟨us, []⟩) (CR (L2.CX X.prog X.w) X.stack X.prog X.w H2 s2 Q fun _ _ _ => False) s2 := by
    refine PySem.W.kla_callFunE hr.depth ho rfl S.co S.gen rfl (codeO_at I2.hok h2) ?_
    rw [hb pm ctv us (by rw [← r.length]; exact hl)]
    refine wpAny_pure (wpAny_newFunctionEnv S.nocell (fun ⟨n, _⟩ hy => S.par n (List.of_mem_zip hy).1) (fun g₁ gns gsb => ⟨lim.fresh _ gsb, ?_⟩) S.kind)
    have kept : ∀ c o, s2.heap.get? c = some o → g₁.get? c = some o := fun c o e => gsb.extBut c o (Nat.ne_of_lt (Heap.lt_size e)) (Heap.get?_push_of_some _ e)
    have J : Inv (ncx (L2.CX X.prog X.w) X.prog X.w X.K X.mg X.base Np F f X.A X.stack s2 H2 (fun _ _ _ => False)) [] (startF Np vs ws) H2 { s2 with heap := g₁, toks := s2.toks + (ps.zip us).length } := inv_startN S hr.hd e0 hl r C2 gns kept
    refine PySem.W.kla_codeExpr (wpAny_mono ((body X.A X.stack s2 H2 (hr.deeper _)).run [] _ _ H2 Q J q) (fun v s' hq => ?_) fun e s' hq => hq)
    obtain ⟨v', H', J', rv, q⟩ := hq
    exact ⟨v', H', J'.os, J'.bare, J'.base, J'.hok, rv, q⟩
  refine wpAny_call (codeAny_mono run fun r s' hq => ?_)
  cases r with
  | error e =>
    obtain ⟨_, _, _, _, _, _, _, _, _, _, _, _, z⟩ := hq
    exact z.elim
  | ok fl =>
    cases fl with
    | ret u => exact I2.after hq
    | next => exact False.elim hq
    | brk => exact False.elim hq
    | cont => exact False.elim hq
end
end PD

set_option linter.all false
set_option maxRecDepth 100000
set_option maxHeartbeats 2000000
/-! PD19: x = lambda ..; f(.., x). -/
namespace PD
open PySem PySem.Spec PyProof.Rows L2 LamX NdefX

/-- slot j holds the lambda at f, whose code object stands at c -/
def Gm.lam (Γ : Gm) (j : Nat) (f c : Addr) (F : NF) (b : Expr) : Gm :=
  { Γ with bor := fun i => if i = j then some (.ref f) else Γ.bor i, pin := fun a o => Γ.pin a o ∨ (a = f ∧ o = LamO f F b) ∨ (a = c ∧ o = CodeO c F.qual) }
/-- slot j is nobody's -/
def sUn (j : Nat) : S → SR := fun s => if isOwn s j = false ∧ j < s.length then .nx (s.set j .no) else .st
theorem isOwn_no {s : S} {j : Nat} (h : isOwn s j = false) (o : O) : s[j]? ≠ some (.ow o) := fun q => by
  unfold isOwn at h
  rw [q] at h
  cases h
section
variable {Z : Zt} {Γ : Gm} {s : S} {Lv : Nat → List Addr} {σ : L2.St} {H : Hp} {j : Nat} {f c : Addr} {F : NF} {b : Expr}
theorem Rl.emp (R : Rl Z Γ s Lv σ H) (h : isOwn s j = false) : Lv j = [] := by
  by_cases hj : j < s.length
  · have q := R.sl j s[j] (List.getElem?_eq_getElem hj)
    have n := isOwn_no h
    rw [List.getElem?_eq_getElem hj] at n
    generalize s[j] = y at q n
    cases y with
    | no => exact q
    | fz d => exact q.1
    | ow o => exact absurd rfl (n o)
  · exact R.out j (Nat.le_of_not_lt hj)
/-- .. from there on -/
theorem Rl.toLam {K1 : Hp} (R : Rl Z Γ s Lv σ H) (ho : isOwn s j = false) (hj : j < s.length) (hb : Γ.bor j = none) (E : ExtN H K1) (kt : ∀ q ps, H q = some (.tbl ps) → ∃ qs, K1 q = some (.tbl qs)) (T : Tabs Z.T K1)
    (h1 : K1 f = some (LamO f F b)) (h2 : K1 c = some (CodeO c F.qual)) : Rl Z (Γ.lam j f c F b) (s.set j .no) Lv (σ.set j (some (.ref f))) K1 ∧ Fw Z (Γ.X Lv) H ((Γ.lam j f c F b).X Lv) K1 := by
  have st : ∀ a, H a ≠ none → K1 a ≠ none := fun a h q => by
    cases p : H a with
    | none => exact h p
    | some o =>
      by_cases ht : ∃ ps, o = .tbl ps
      · obtain ⟨ps, rfl⟩ := ht
        obtain ⟨qs, e⟩ := kt a ps p
        rw [e] at q; cases q
      · rw [E a o p fun ps z => ht ⟨ps, z⟩] at q; cases q
  have Fw1 : Fw Z (Γ.X Lv) H ((Γ.lam j f c F b).X Lv) K1 := ⟨fun a o h _ t => E a o h t, kt, fun a h => .inl h, fun _ => T⟩
  refine ⟨⟨by simpa using R.len, fun i x hx => ?_, fun i hi => R.out i (by simpa using hi), R.nd, R.dj, R.lvb, fun a o h n t => E a o (R.keep a o h n t) t, fun a ps h => ?_, fun a h => st a (R.st0 a h), fun a h => st a (R.x0 a h), R.bx, T, fun i v h => ?_, fun a o h => ?_⟩, Fw1⟩
  · by_cases hi : i = j
    · subst hi
      rw [List.getElem?_set_self hj] at hx
      cases hx
      exact R.emp ho
    · rw [List.getElem?_set_ne (Ne.symm hi)] at hx
      rw [List.getElem?_set_ne (Ne.symm hi)]
      refine (R.sl i x hx).mono Fw1 fun a ha => ?_
      cases q : H a with
      | none => exact absurd q (R.there ha)
      | some o => exact E a o q fun ps z => R.notbl ha (by rw [q, z])
  · obtain ⟨qs, e⟩ := R.ktbl a ps h
    exact kt a qs e
  · have h : (if i = j then some (V.ref f) else Γ.bor i) = some v := h
    by_cases hi : i = j
    · rw [if_pos hi] at h
      cases h
      rw [hi, List.getElem?_set_self (by rw [← R.len]; exact hj)]
    · rw [if_neg hi] at h
      rw [List.getElem?_set_ne (Ne.symm hi)]
      exact R.bor i v h
  · rcases h with h | ⟨rfl, rfl⟩ | ⟨rfl, rfl⟩
    · obtain ⟨p1, p2, p3, p4⟩ := R.pn a o h
      exact ⟨p1, p2, p3, E a o p4 p3⟩
    · exact ⟨.inr ⟨_, rfl⟩, .inr ⟨_, rfl⟩, lamO_ne, h1⟩
    · exact ⟨.inr ⟨_, rfl⟩, .inr ⟨_, rfl⟩, codeO_ne, h2⟩
/-- .. and back -/
theorem Rl.ofLam {Γ : Gm} {L : List Addr} (R : Rl Z ((Γ.lam j f c F b).plus L) s Lv σ H) (hb : Γ.bor j = none) : Rl Z (Γ.plus L) s Lv σ H := by
  refine ⟨R.len, R.sl, R.out, R.nd, R.dj, R.lvb, R.keep, R.ktbl, R.st0, R.x0, R.bx, R.tb, fun i v h => ?_, fun a o h => R.pn a o (.inl h)⟩
  refine R.bor i v ?_
  have h : Γ.bor i = some v := h
  show (if i = j then some (V.ref f) else Γ.bor i) = some v
  rw [if_neg fun z => by rw [z, hb] at h; cases h]
  exact h
theorem Ps.ofLam {Γ : Gm} {r : SR} {Dn : Ends} (po : Ps Z Γ r Lv H Dn) (hb : Γ.bor j = none) : Ps Z (Γ.lam j f c F b) r Lv H Dn := by
  have un : ∀ {s' : S} {Lv' : Nat → List Addr} {σ' : L2.St} {H' : Hp}, Rl Z (Γ.lam j f c F b) s' Lv' σ' H' → Rl Z Γ s' Lv' σ' H' := fun R => by
    have q := Rl.ofLam (L := []) (by rw [plus_nil]; exact R) hb
    rw [plus_nil] at q
    exact q
  cases r with
  | nx s => exact fun σ' H' Lv' R' F' => po σ' H' Lv' (un R') F'
  | bk s => exact fun σ' H' Lv' R' F' => po σ' H' Lv' (un R') F'
  | ct s => exact fun σ' H' Lv' R' F' => po σ' H' Lv' (un R') F'
  | rt r s => exact fun v σ' H' Lv' L R' F' nd nw rr => po v σ' H' Lv' L (R'.ofLam hb) F' nd nw rr
  | er c ns ds s => exact fun cls d σ' H' Lv' R' F' x => po cls d σ' H' Lv' (un R') F' x
  | st => exact po
end
/-- what the making of a lambda needs of the text and the top -/
structure LamT (Z : Zt) (X : Cx) (params : Arguments) (scope : Scope) (c P : Addr) : Prop where
  tb : TabB X.base X.mg c P
  code : X.env.code = .ref c
  mem : (P, X.env.qual ++ "<lambda>") ∈ Z.T
  uni : ∀ p ∈ Z.T, p.1 = P → p.2 = X.env.qual ++ "<lambda>"
  dflt : defaultsOf params X.env = ([], [])
  fr : ∀ y ∈ scope.names, y.2 = .free → X.env.scope.names.lookup y.1 = some .cell ∨ X.env.scope.names.lookup y.1 = some .free
section
variable {X : Cx} {Z : Zt} {Γ : Gm} {x : Str} {params : Arguments} {body : Expr} {scope : Scope} {rest : List Stmt} {g : S → SR} {c P : Addr} {p1 lpos pos : Pos}
/-- x = lambda .. and what follows -/
theorem dss_lam (j : Nat) (L : LamT Z X params scope c P) (hr : ∀ f d, PSs X rest (tS Z (Γ.lam j f d (nfOf X params scope d) body) g)) (hN : X.N.Nodup) (hi : X.N[j]? = some x := by rfl) (hx : Loc X.env.scope x := by first | exact Or.inl rfl | exact Or.inr rfl) (hb : Γ.bor j = none := by rfl)
    (hs : swapsWith (.Lambda params body scope lpos) (some (.Name x p1)) pos.line X.env = pure false := by rfl) (hf : X.fn x = true ∨ X.env.scope.names.lookup x = some .local := by first | exact .inl rfl | exact .inr rfl | assumption) :
    PSs X (.Assign [.Name x p1] (.Lambda params body scope lpos) pos :: rest) (tS Z Γ (sSeq (sUn j) g)) := by
  have hl : PE X (.Lambda params body scope lpos) (fun σ H Q => Tabs Z.T H ∧ ∀ f d K1, ExtN H K1 → (∀ q ps, H q = some (.tbl ps) → ∃ qs, K1 q = some (.tbl qs)) → Tabs Z.T K1 → K1 f = some (LamO f (nfOf X params scope d) body) → K1 d = some (CodeO d (X.env.qual ++ "<lambda>")) → Q (.ref f) K1) := by
    refine ⟨fun pins s σ H Q I h => ?_⟩
    obtain ⟨T, h⟩ := h
    exact lam_make I L.tb L.code L.mem L.uni T L.dflt (fun y hy e => (L.fr y hy e).elim (fun z => I.ok.has _ (.inl z)) fun z => I.ok.has _ (.inr z)) fun f d K1 s' I' e kt t1 _ _ _ h1 h2 => ⟨.ref f, K1, I', rfl, h f d K1 e kt t1 h1 h2⟩
  refine pss_imp (pss_cons (ps_set hN hi hx hl hs hf) (u := fun D σ H => ∃ f d, tS Z (Γ.lam j f d (nfOf X params scope d) body) g D σ H) ⟨fun pins s σ H D I ⟨f, d, h⟩ => (hr f d).run pins s σ H D I h⟩) fun Dn σ H h => ?_
  obtain ⟨s, Lv, R0, po⟩ := h
  refine ⟨R0.tb, fun f d K1 e kt t1 h1 h2 => ⟨f, d, ?_⟩⟩
  unfold sSeq sUn at po
  by_cases ho : isOwn s j = false ∧ j < s.length
  · rw [if_pos ho] at po
    simp only at po
    obtain ⟨R1, F1⟩ := R0.toLam (F := nfOf X params scope d) (b := body) ho.1 ho.2 hb e kt t1 h1 h2
    exact ⟨_, Lv, R1, (po.fw F1).ofLam hb⟩
  · rw [if_neg ho] at po; exact po.elim
end
end PD

set_option linter.all false
set_option maxRecDepth 100000
set_option maxHeartbeats 2000000
/-! PD20: a def that calls what it got. -/
namespace PD
open PySem PySem.Spec PyProof.Rows L2 LamX NdefX

def NoE : XK := fun _ _ _ => False
/-- a name that calls what it holds -/
def JudgeOk (X : Cx) (Z : Zt) (Γ : Gm) (nm : Str) (m : Nat) (jm : List D → FR) : Prop :=
  ∀ (e : Expr) (es : List Expr) (fs : S → R (List W)) (p1 p2 : Pos), PA X (e :: es) (tA Z Γ fs) → starEach (e :: es) X.env = (false, eval e X.env) :: starEach es X.env → (backTo p2 (starEach es X.env)).any (·.1) = false →
    PE X (.Call (.Name nm p1) (e :: es) [] p2) (tE Z Γ (eFz (rCall m jm fs)))
def runE (n : Nat) (fb : S → R W) (ds : List D) : FR := match fb (ds.map Sl.fz ++ List.replicate (n - ds.length) Sl.no) with
  | .ok (.d d) _ => .ok (.d d)
  | _ => .st
/-- the entry of a def that got a lambda in slot n -/
def lamPin (f : Addr) (F : NF) (b : Expr) : Addr → HO → Prop := fun a o => (a = f ∧ o = LamO f F b) ∨ (a = F.c ∧ o = CodeO F.c F.qual)
def Gz (Y : Addr → Prop) (H : Hp) (f : Addr) (n : Nat) (pin : Addr → HO → Prop) : Gm := ⟨Y, H, [], fun i => if i = n then some (.ref f) else none, fun _ _ _ _ => False, pin⟩

section
variable {Z : Zt} {Γ : Gm}
theorem fz_D {fr : S → R Rv} {σ : L2.St} {H : Hp} {Q : VK} (h : tE Z Γ (eFz fr) σ H Q) : tR Z Γ fr σ H Q := by
  obtain ⟨s, Lv, R0, po⟩ := h
  refine ⟨s, Lv, R0, ?_⟩
  unfold eFz at po
  cases e1 : fr s with
  | st => rw [e1] at po; exact po.elim
  | er c ns ds s1 => rw [e1] at po; exact po
  | ok r s1 =>
    rw [e1] at po
    intro v H' Lv' L R1 F1 nd nw rr
    have F2 : Fw Z ((Γ.plus L).X Lv') H' (Γ.X Lv') H' := Fw.refl.less fun a h => by
      rcases h with h | h
      · exact .inl (.inl h)
      · exact .inr h
    refine po v H' Lv' (R1.less R0.bx R0.pinx) (F1.trans F2) ?_
    cases r with
    | d x => obtain ⟨_, rr⟩ := rr; exact rr.mono F2
    | o x => exact OwnRep.toD F2 (fun a ha q => (nw a ha).1 q) rr
/-- at a frame's end all that stood at its entry stands -/
theorem Rl.kpOf {L : List Addr} {s' : S} {σ' : L2.St} {H' : Hp} {Lv' : Nat → List Addr} (R' : Rl Z (Γ.plus L) s' Lv' σ' H') (hB : Γ.B = []) : Kp Z Γ.H0 H' :=
  ⟨fun a o h t => R'.keep a o h (fun z => by have z : a ∈ Γ.B := z; rw [hB] at z; cases z) t, R'.ktbl, fun _ => R'.tb⟩
theorem start_app {N : List Str} {vs ws : List V} : startF N vs (ws.map some) = L2.start N (vs ++ ws) := by
  unfold startF L2.start
  rw [List.map_append, List.append_assoc, List.length_map, List.length_append, Nat.sub_add_eq]
/-- the entry's relation, for any entry that owns nothing -/
theorem rl_start2 {Y : Addr → Prop} {H : Hp} {N : List Str} {ds : List D} {vs us : List V} (h0 : Γ.X0 = Y) (h1 : Γ.H0 = H) (hB : Γ.B = []) (hY : ∀ a, Y a → H a ≠ none) (tb : Tabs Z.T H) (r : RepL Z Y H ds vs) (hl : vs.length + us.length ≤ N.length)
    (hb : ∀ i v, Γ.bor i = some v → (L2.start N (vs ++ us))[i]? = some (some v)) (hp : ∀ a o, Γ.pin a o → Ext o ∧ H a = some o) :
    Rl Z Γ (ds.map Sl.fz ++ List.replicate (N.length - ds.length) Sl.no) (fun _ => []) (L2.start N (vs ++ us)) H := by
  have hlen := r.length
  have F : Fw Z Y H (Γ.X fun _ => []) H := Fw.refl.less fun a h => by
    rcases h with h | ⟨i, h⟩
    · rw [← h0]; exact h
    · cases h
  refine { len := ?_, sl := fun i x hx => ?_, out := fun _ _ => rfl, nd := fun _ => List.nodup_nil, dj := fun i j a h _ => (nomatch h), lvb := fun i a h => (nomatch h), keep := fun a o h _ _ => by rw [← h1]; exact h, ktbl := fun a ps h => ⟨ps, by rw [← h1]; exact h⟩, st0 := fun a h => by rw [← h1]; exact h, x0 := fun a h => hY a (by rw [← h0]; exact h), bx := fun a h => (by rw [hB] at h; cases h), tb := tb, bor := hb, pn := fun a o h => ?_ }
  · unfold L2.start; simp [hlen]; omega
  · by_cases hi : i < ds.length
    · rw [List.getElem?_append_left (by simpa using hi), List.getElem?_map, List.getElem?_eq_getElem hi] at hx
      cases hx
      obtain ⟨v, e, rv⟩ := r.get (List.getElem?_eq_getElem hi)
      refine ⟨rfl, v, ?_, rv.mono F⟩
      unfold L2.start
      rw [List.getElem?_append_left (by simp; omega), List.getElem?_map, List.getElem?_append_left (by omega), e]
      rfl
    · rw [List.getElem?_append_right (by simp; omega), List.getElem?_replicate] at hx
      split at hx
      · cases hx; rfl
      · cases hx
  · obtain ⟨q, e⟩ := hp a o h
    have nt : ∀ ps, o ≠ .tbl ps := fun ps z => by
      obtain ⟨φ, q⟩ := q
      rw [q] at z; cases z
    exact ⟨.inr q, .inr q, nt, e⟩
end

section
variable {X : Cx} {Z : Zt} {Y : Addr → Prop} {f : Addr} {F : NF} {b : Expr} {Np ps fr : List Str} {k n : Nat} {a : Str} {cs : List D} {vcs : List V} {fb : S → R W}
/-- the lambda in slot n, captured names bound to cs -/
theorem judge_lam (S : NScope Np ps fr F.scope) (C : CellsAt F.cl fr (vcs.map some) X.s_0.heap X.H_0) (hx : X.ex = []) (hr : Room (k + 1) X.A) (rc : RepL Z Y X.H_0 cs vcs) (hNp : Np.length = ps.length + fr.length)
    (hb : ∀ (pm ctv : Value) (us : List Value), us.length = ps.length → bindArgs (PySem.W.kla_fn F.name F.qual F.params b F.scope F.cl pm (.ref F.c) ctv) ⟨us, []⟩ = pure (ps.zip us))
    (body : ∀ (Y' : Addr → Prop) (H' : Hp) (A : Around) (outer : List Env) (s : Shared) (H : Hp), Room k (A.deeper (envF F f s.heap.objs.size)) → PE (ncx (L2.CX X.prog X.w) X.prog X.w X.K X.mg X.base Np F f A outer s H NoE) b (tE Z (Gp Y' H' NoE) fb))
    (hN : X.N[n]? = some a) (hv : Vis X.env.scope a) (hd : (a == ("__debug__" : Str)) = false) (hcd : (a == ("__classdict__" : Str)) = false) :
    JudgeOk X Z (Gz Y X.H_0 f n (lamPin f F b)) a ps.length (fun ds => runE Np.length fb (ds ++ cs)) := by
  intro e es fs p1 p2 ha he hpl
  refine pe_imp (pe_lam2 (tb := fun σ H Q => ∃ Y' H', tE Z (Gp Y' H' NoE) fb σ H Q) S C hx hr hb (fun A outer s H hr => ⟨fun pins s' σ H1 Q I ⟨Y', H', h⟩ => (body Y' H' A outer s H hr).run pins s' σ H1 Q I h⟩) ha hN hv hd hcd he hpl) fun σ H Q h => ?_
  have q := call_D2 (Γ := Gz Y X.H_0 f n (lamPin f F b)) (fun _ _ _ _ _ h => False.elim h) (fz_D h)
  obtain ⟨s, Lv, R0, _⟩ := h
  refine ⟨?_, ?_, ?_⟩
  · exact R0.bor n _ (by show (if n = n then _ else _) = _; rw [if_pos rfl])
  · exact (R0.pn f _ (.inl ⟨rfl, rfl⟩)).2.2.2
  obtain ⟨s, Lv, R0, po⟩ := q
  refine ⟨s, Lv, R0, po.mono fun vs H1 ⟨s1, Lv1, ds, R1, r, hl, q⟩ => ⟨(R1.pn f _ (.inl ⟨rfl, rfl⟩)).2.2.2, (R1.pn F.c _ (.inr ⟨rfl, rfl⟩)).2.2.2, by rw [← r.length]; exact hl, ?_⟩⟩
  have hcl := C.len
  rw [List.length_map] at hcl
  have F0 : Fw Z Y X.H_0 ((Gz Y X.H_0 f n (lamPin f F b)).X Lv1) H1 := by
    refine ⟨fun a o h _ t => R1.keep a o h (fun z => by cases z) t, R1.ktbl, fun a h => ?_, fun _ => R1.tb⟩
    rcases h with h | ⟨i, h⟩
    · exact .inl h
    · rcases R1.lvb i a h with z | z
      · cases z.2
      · exact .inr z.1
  rw [start_app]
  refine ⟨(Gz Y X.H_0 f n (lamPin f F b)).X Lv1, H1, (ds ++ cs).map Sl.fz ++ List.replicate (Np.length - (ds ++ cs).length) Sl.no, fun _ => [], ?_, ?_⟩
  · have := rl_start (Z := Z) (E := NoE) (N := Np) (fun a h => R1.xs h) R1.tb (r.app (RepL.mono F0 _ _ rc))
    exact this
  · unfold runE at q
    generalize fb ((ds ++ cs).map Sl.fz ++ List.replicate (Np.length - (ds ++ cs).length) Sl.no) = y at q
    cases y with
    | st => exact q.elim
    | er c ns es s' => exact q.elim
    | ok w s' =>
      cases w with
      | p i => exact q.elim
      | d d =>
        intro v H' Lv' R' F' rw_
        have R2 : Rl Z ((Gp ((Gz Y X.H_0 f n (lamPin f F b)).X Lv1) H1 NoE).plus []) s' Lv' (L2.start Np (vs ++ vcs)) H' := by rw [plus_nil]; exact R'
        exact q v H' [] (R2.kpOf rfl) List.nodup_nil (fun b hb => by cases hb) ⟨rfl, Rep.mono (Fw.refl.less fun a h => by
          rcases h with h | h
          · exact .inl h
          · cases h) _ _ rw_⟩
end
end PD

set_option linter.all false
set_option maxRecDepth 100000
set_option maxHeartbeats 2000000
/-! PD21: the call itself. -/
namespace PD
open PySem PySem.Spec PyProof.Rows L2 LamX NdefX

theorem ps_goP {Z : Zt} {Γ : Gm} {Y : Addr → Prop} {H : Hp} {Q : VK} {E : XK} {N : Nat} {body : S → SR} {ds : List D} (h0 : Γ.X0 = Y) (h1 : Γ.H0 = H) (hB : Γ.B = []) (hE : ∀ cls d σ H', E cls d H' → Γ.E cls d σ H') (po : goP Z Y H Q E (runP N body ds)) :
    Ps Z Γ (body (ds.map Sl.fz ++ List.replicate (N - ds.length) Sl.no)) (fun _ => []) H { nx := fun _ H' => Q .non H', rt := Q } := by
  unfold runP at po
  have kp : ∀ {s' : S} {L : List Addr} {σ' : L2.St} {H' : Hp} {Lv' : Nat → List Addr}, Rl Z (Γ.plus L) s' Lv' σ' H' → Kp Z H H' := fun R' => by rw [← h1]; exact R'.kpOf hB
  generalize body (ds.map Sl.fz ++ List.replicate (N - ds.length) Sl.no) = b at po
  cases b with
  | nx s' => exact fun σ' H' Lv' R' F' => po .non H' [] (kp (by rw [plus_nil]; exact R')) List.nodup_nil (fun b hb => by cases hb) ⟨rfl, rep_non⟩
  | rt q s' =>
    intro v σ' H' Lv' L R' F' nd nw rr
    refine po v H' L (kp R') nd (fun b hb => ⟨?_, R'.x0 b (.inr hb)⟩) (rr.mono (Fw.refl.less fun a h => ?_) fun _ _ => rfl)
    · rw [← h1]; exact (nw b hb).2
    · rw [← h0] at h; exact .inl h
  | er c ns es s' =>
    intro cls d σ' H' Lv' R' F' x
    refine hE _ _ _ _ (po cls d H' (kp (L := []) (by rw [plus_nil]; exact R')) ?_)
    obtain ⟨C, e1, e2, e3⟩ := x
    exact ⟨C, e1, e2, e3.imp id fun ⟨dd, vs, a, b, c, d⟩ => ⟨dd, vs, a, b, c, d.mono (Fw.refl.less fun a h => by rw [← h0] at h; exact .inl h)⟩⟩
  | bk s' => exact po.elim
  | ct s' => exact po.elim
  | st => exact po.elim
/-- data in the slots js -/
def capL (s : S) : List Nat → Option (List D)
  | [] => some []
  | j :: js => match s[j]? with
    | some (.fz d) => (capL s js).map (d :: ·)
    | _ => none
def isP (j : Nat) : List W → Bool
  | [.p i] => i == j
  | _ => false
def rCallJ (n j : Nat) (js : List Nat) (m : (List D → FR) → List D → FR) (jf : List D → FR) (f : S → R (List W)) : S → R Rv := fun s => (f s).bind fun ws s1 => match fzL (ws.take n), capL s1 js with
  | some ds, some cs => if ds.length = n ∧ isP j (ws.drop n) = true then (match m (fun xs => jf (xs ++ cs)) ds with
    | .ok r => .ok r s1
    | _ => .st) else .st
  | _, _ => .st
/-- a name whose value is known -/
def eVJ (j : Nat) : S → R W := fun s => .ok (.p j) s
theorem capL_ok {Z : Zt} {Γ : Gm} {s : S} {Lv : Nat → List Addr} {σ : L2.St} {H : Hp} (R : Rl Z Γ s Lv σ H) : ∀ {js : List Nat} {cs : List D}, capL s js = some cs → ∃ vs : List V, js.map (slotAt σ) = vs.map some ∧ RepL Z (Γ.X Lv) H cs vs
  | [], cs, h => by cases h; exact ⟨[], rfl, RepL.nil⟩
  | j :: js, cs, h => by
    simp only [capL] at h
    split at h
    · rename_i d e
      cases e2 : capL s js with
      | none => rw [e2] at h; cases h
      | some cr =>
        rw [e2] at h
        cases h
        obtain ⟨v, e3, r⟩ := R.fz e
        obtain ⟨vs, e4, r2⟩ := capL_ok R e2
        refine ⟨v :: vs, ?_, by simp only [RepL]; exact ⟨v, vs, rfl, r, r2⟩⟩
        rw [List.map_cons, List.map_cons, e4]
        congr 1
        unfold NdefX.slotAt
        rw [e3]
    · cases h
theorem WRepL.split {Z : Zt} {X : Addr → Prop} {σ : L2.St} {H : Hp} : ∀ {n : Nat} {ws : List W} {vs : List V}, WRepL Z X σ H ws vs → WRepL Z X σ H (ws.take n) (vs.take n) ∧ WRepL Z X σ H (ws.drop n) (vs.drop n)
  | 0, ws, vs, h => by simp only [List.take_zero, List.drop_zero]; exact ⟨rfl, h⟩
  | n + 1, [], vs, h => by
    have h : vs = [] := h
    subst h
    exact ⟨rfl, rfl⟩
  | n + 1, w :: ws, vs, h => by
    obtain ⟨v, vr, rfl, h1, h2⟩ := h
    obtain ⟨q1, q2⟩ := WRepL.split (n := n) h2
    exact ⟨⟨v, _, rfl, h1, q1⟩, q2⟩
section
variable {X : Cx} {Z : Zt} {Γ : Gm} {pos p : Pos} {x : Str}
theorem de_vj (j : Nat) {f : Addr} (hb : Γ.bor j = some (.ref f)) (hN : X.N[j]? = some x := by rfl) (hv : Vis X.env.scope x := by first | exact Or.inl rfl | exact Or.inr (Or.inl rfl) | exact Or.inr (Or.inr rfl)) (hd : (x == ("__debug__" : Str)) = false := by decide)
    (hcd : (x == ("__classdict__" : Str)) = false := by decide) : PE X (.Name x pos) (tE Z Γ (eVJ j)) := by
  refine pe_imp (pv j hN hv hd hcd) fun σ H Q h => ?_
  obtain ⟨s, Lv, R0, po⟩ := h
  have e := R0.bor j _ hb
  exact ⟨_, e, po.ok R0 e⟩
variable {gx jn : Str} {st : Stmt} {g f : Addr} {fd : FuncData} {Ng psg Np psl fr : List Str} {Fl : NF} {b e : Expr} {es : List Expr} {js : List Nat} {k n j : Nat} {fb : S → R W} {bf : (List D → FR) → S → SR} {fs : S → R (List W)}
/-- g(.., x), x a name that holds a lambda, which g calls -/
theorem dr_callJ (F : Fun X.K gx gx st g fd) (Sc : FnScope Ng psg (defScope st)) (hps : psg.length = n + 1) (hNg : n < Ng.length) (hbd : Binds X.K fd psg []) (hr : Room (k + 2) X.A) (hg : Gl X gx) (hm : X.mg gx = some (.ref g))
    (S : NScope Np psl fr Fl.scope) (hNp : Np.length = psl.length + fr.length) (cp : X.Ok → Caps X Fl.cl fr js)
    (hbb : ∀ (pm ctv : Value) (us : List Value), us.length = psl.length → bindArgs (PySem.W.kla_fn Fl.name Fl.qual Fl.params b Fl.scope Fl.cl pm (.ref Fl.c) ctv) ⟨us, []⟩ = pure (psl.zip us))
    (hbor : Γ.bor j = some (.ref f)) (hp1 : Γ.pin f (LamO f Fl b)) (hp2 : Γ.pin Fl.c (CodeO Fl.c Fl.qual))
    (lbody : ∀ (Y' : Addr → Prop) (H' : Hp) (A : Around) (outer : List Env) (s : Shared) (H : Hp), Room k (A.deeper (envF Fl f s.heap.objs.size)) → PE (ncx (L2.CX X.prog X.w) X.prog X.w X.K X.mg X.base Np Fl f A outer s H NoE) b (tE Z (Gp Y' H' NoE) fb))
    (bd : ∀ (cdv : Value) (A : Around) (outer : List Env) (s : Shared) (H : Hp) (Y : Addr → Prop) (jm : List D → FR), Room (k + 1) (A.deeper (envOfC gx (defScope st) s.heap.objs.size g cdv)) →
      JudgeOk (cxOf (L2.CX X.prog X.w) X.prog X.w X.K X.mg X.base Ng gx (defScope st) g cdv A outer s H NoE) Z (Gz Y H f n (lamPin f Fl b)) jn psl.length jm →
      PSs (cxOf (L2.CX X.prog X.w) X.prog X.w X.K X.mg X.base Ng gx (defScope st) g cdv A outer s H NoE) (defBody st) (tS Z (Gz Y H f n (lamPin f Fl b)) (bf jm)))
    (hNj : Ng[n]? = some jn) (hvj : Vis (defScope st) jn) (ha : PA X (e :: es) (tA Z Γ fs)) (hjd : (jn == ("__debug__" : Str)) = false := by decide) (hjc : (jn == ("__classdict__" : Str)) = false := by decide)
    (hdb : (gx == ("__debug__" : Str)) = false := by decide) (he : starEach (e :: es) X.env = (false, eval e X.env) :: starEach es X.env := by rfl) (hpl : (backTo pos (starEach es X.env)).any (·.1) = false := by rfl) :
    PE X (.Call (.Name gx p) (e :: es) [] pos) (tR Z Γ (rCallJ n j js (fun jm => runP Ng.length (bf jm)) (runE Np.length fb) fs)) := by
  refine ⟨fun pins s σ H Q I h => ?_⟩
  refine wpAny_Call_Name_kw (ld_glob I hg hm ?_ hdb)
  -- the arguments
  have ha2 : tA Z Γ fs σ H fun vs H1 => ∃ s1 Lv1 ds cs vcs, Rl Z Γ s1 Lv1 σ H1 ∧ vs = vs.take n ++ [.ref f] ∧ RepL Z (Γ.X Lv1) H1 ds (vs.take n) ∧ ds.length = n ∧ js.map (slotAt σ) = vcs.map some ∧ RepL Z (Γ.X Lv1) H1 cs vcs ∧
      goP Z (Γ.X Lv1) H1 Q NoE (runP Ng.length (bf fun xs => runE Np.length fb (xs ++ cs)) ds) := by
    obtain ⟨s, Lv, R0, po⟩ := h
    refine ⟨s, Lv, R0, ?_⟩
    unfold rCallJ at po
    cases e1 : fs s with
    | st => rw [e1] at po; exact po.elim
    | er c ns ds s1 => rw [e1] at po; exact po
    | ok ws s1 =>
      rw [e1] at po
      simp only [PD.R.bind_ok] at po
      intro vs H1 Lv1 R1 F1 r1
      cases e2 : fzL (ws.take n) with
      | none => rw [e2] at po; exact po.elim
      | some ds =>
        cases e3 : capL s1 js with
        | none => rw [e2, e3] at po; exact po.elim
        | some cs =>
          rw [e2, e3] at po
          simp only at po
          by_cases hc : ds.length = n ∧ isP j (ws.drop n) = true
          · rw [if_pos hc] at po
            obtain ⟨q1, q2⟩ := WRepL.split (n := n) r1
            have rds := fzL_ok q1 e2
            obtain ⟨vcs, ev, rcs⟩ := capL_ok R1 e3
            have tl : vs.drop n = [.ref f] := by
              have h2 := hc.2
              unfold isP at h2
              split at h2
              · rename_i i ew
                rw [ew] at q2
                obtain ⟨v, vr, e4, e5, e6⟩ := q2
                have e6 : vr = [] := e6
                have hi : i = j := by simpa using h2
                rw [hi] at e5
                have e7 := R1.bor j _ hbor
                rw [show σ[j]? = some (some v) from e5] at e7
                cases e7
                rw [e4, e6]
              · cases h2
            refine ⟨s1, Lv1, ds, cs, vcs, R1, ?_, rds, hc.1, ev, rcs, ?_⟩
            · rw [← tl]; exact (List.take_append_drop n vs).symm
            · cases e8 : runP Ng.length (bf fun xs => runE Np.length fb (xs ++ cs)) ds with
              | st => rw [e8] at po; exact po.elim
              | er c ns es => rw [e8] at po; exact po.elim
              | ok r' =>
                rw [e8] at po
                unfold goP
                intro v H' L kp nd nw rr
                have Fx : Fw Z (Γ.X Lv1) H1 ((Γ.plus L).X Lv1) H' := ⟨fun a o h _ t => kp.keep a o h t, kp.ktbl, fun a h => by
                  rcases h with (h | h) | h
                  · exact .inl (.inl h)
                  · exact .inr (nw a h).1
                  · exact .inl (.inr h), kp.tabs⟩
                refine po v H' Lv1 L (R1.kp (E := Γ.E) kp nw) (F1.trans Fx) nd (fun b hb => ⟨fun q => R1.xs q (nw b hb).1, ?_⟩) (rr.mono (Fw.refl.less fun a h => ?_) fun _ _ => rfl)
                · cases q : Γ.H0 b with
                  | none => rfl
                  | some o => exact absurd (nw b hb).1 (R1.st0 b (by rw [q]; simp))
                · rcases h with (h | h) | h
                  · exact .inl (.inl h)
                  · exact .inr h
                  · exact .inl (.inr h)
          · rw [if_neg hc] at po; exact po.elim
  refine PySem.W.callWith_K (h₀ := X.base) I.ok.mod.kin F.kp (thn (ha.run pos pins s σ H _ I ha2) fun us s1 ⟨vs, H1, I1, r, q⟩ => ⟨I1.kIn, ?_⟩) he hpl
  obtain ⟨t1, Lv1, ds, cs, vcs, R1, evs, rds, hn, ev, rcs, po⟩ := q
  show wpAny _ _ (call (.ref g) us) _ _ _
  have lvs : vs.length = n + 1 := by
    rw [evs, List.length_append, ← rds.length, hn]; rfl
  have run : codeAny (model X.prog X.w) X.A (.call (.ref g) ⟨us, []⟩) (CR (L2.CX X.prog X.w) X.stack X.prog X.w H1 s1 Q NoE) s1 := by
    obtain ⟨oc, od, kV, doc, pm, an, cdv, ct, osl, rfl, lk, hcd⟩ := F.ex
    refine run_ofS (N := Ng) (ps := psg) (us := us) (vs := vs) lk hcd Sc hr I1.env0 (by have q := hbd s1 us I1.kIn (by rw [List.append_nil, ← r.length, lvs, hps]); rwa [List.append_nil] at q) r (by rw [lvs, hps]) fun hr' => ?_
    have C : CellsAt Fl.cl fr (vcs.map some) s1.heap H1 := by rw [← ev]; exact cells_of I1 (cp I1.ok)
    have J : JudgeOk (cxOf (L2.CX X.prog X.w) X.prog X.w X.K X.mg X.base Ng gx (defScope st) g cdv X.A X.stack s1 H1 NoE) Z (Gz (Γ.X Lv1) H1 f n (lamPin f Fl b)) jn psl.length (fun xs => runE Np.length fb (xs ++ cs)) :=
      judge_lam (X := cxOf (L2.CX X.prog X.w) X.prog X.w X.K X.mg X.base Ng gx (defScope st) g cdv X.A X.stack s1 H1 NoE) S C rfl hr' rcs hNp hbb lbody hNj hvj hjd hjc
    refine ⟨_, bd cdv X.A X.stack s1 H1 (Γ.X Lv1) _ hr' J, ds.map Sl.fz ++ List.replicate (Ng.length - ds.length) Sl.no, fun _ => [], ?_, ps_goP (Γ := Gz (Γ.X Lv1) H1 f n (lamPin f Fl b)) rfl rfl rfl (fun cls d σ H' h => h) po⟩
    have lt : (vs.take n).length = n := by rw [← rds.length]; exact hn
    have start : Rl Z (Gz (Γ.X Lv1) H1 f n (lamPin f Fl b)) (ds.map Sl.fz ++ List.replicate (Ng.length - ds.length) Sl.no) (fun _ => []) (L2.start Ng (vs.take n ++ [V.ref f])) H1 := ?_
    · rw [← evs] at start; exact start
    refine rl_start2 (Γ := Gz (Γ.X Lv1) H1 f n (lamPin f Fl b)) rfl rfl rfl (fun a h => R1.xs h) R1.tb rds (by simp only [lt, List.length_singleton]; omega) (fun i v h => ?_) fun a o h => ?_
    · have h : (if i = n then some (V.ref f) else none) = some v := h
      by_cases hi : i = n
      · rw [if_pos hi] at h
        cases h
        unfold L2.start
        rw [hi, List.getElem?_append_left (by simp only [List.length_map, List.length_append, lt, List.length_singleton]; omega), List.getElem?_map, List.getElem?_append_right (by rw [lt]; exact Nat.le_refl _), lt, Nat.sub_self]
        rfl
      · rw [if_neg hi] at h; cases h
    · rcases h with ⟨rfl, rfl⟩ | ⟨rfl, rfl⟩
      · exact ⟨⟨_, rfl⟩, (R1.pn _ _ hp1).2.2.2⟩
      · exact ⟨⟨_, rfl⟩, (R1.pn _ _ hp2).2.2.2⟩
  refine wpAny_call (codeAny_mono run fun r s' hq => ?_)
  cases r with
  | error e =>
    obtain ⟨_, _, _, _, _, _, _, _, _, _, _, _, z⟩ := hq
    exact z.elim
  | ok fl =>
    cases fl with
    | ret u => exact I1.after hq
    | next => exact False.elim hq
    | brk => exact False.elim hq
    | cont => exact False.elim hq
end
end PD

set_option linter.all false
set_option maxRecDepth 100000
set_option maxHeartbeats 1000000
/-! PD22: sorted. -/
namespace PD
open PySem PySem.Spec PyProof.Rows L2

noncomputable def encD (d : D) : PyData := d.toP.getD .none
def tupP : PyData → Bool
  | .tuple (_ :: _) => true
  | _ => false
def flatP : PyData → Bool
  | .none => false
  | .tuple _ => false
  | _ => true
noncomputable def sok (ds : List D) : Bool := ds.all (fun d => (dok d).isSome) && (ds.all fun d => ds.all fun e => PySem.W.alike (encD d) (encD e)) && (ds.all (fun d => tupP (encD d)) || ds.all fun d => flatP (encD d)) && decide (ds.length ≤ lim)
noncomputable def sortD (ds : List D) : List D := ds.mergeSort (PySem.W.dataLe false encD)
noncomputable def gSorted : List D → Option D
  | [.lst ds] => if sok ds = true then some (.lst (sortD ds)) else none
  | [.tup ds] => if sok ds = true then some (.lst (sortD ds)) else none
  | _ => none
theorem dok_enc {d : D} (h : (dok d).isSome = true) : d.toP = some (encD d) ∧ SeqAt.shaped (encD d) = true := by
  cases e : dok d with
  | none => rw [e] at h; cases h
  | some p =>
    obtain ⟨a, b⟩ := dok_ok e
    have : encD d = p := by unfold encD; rw [a]; rfl
    rw [this]
    exact ⟨a, b⟩
theorem sok_ok {ds : List D} (h : sok ds = true) : (∀ d ∈ ds, d.toP = some (encD d) ∧ SeqAt.shaped (encD d) = true) ∧ PySem.W.AllAlike (ds.map encD) ∧ PySem.W.Sortable (ds.map encD) ∧ ds.length ≤ lim := by
  unfold sok at h
  simp only [Bool.and_eq_true, Bool.or_eq_true, List.all_eq_true, decide_eq_true_eq] at h
  obtain ⟨⟨⟨h1, h2⟩, h3⟩, h4⟩ := h
  refine ⟨fun d hd => dok_enc (h1 d hd), fun p hp q hq => ?_, ?_, h4⟩
  · obtain ⟨d, hd, rfl⟩ := List.mem_map.mp hp
    obtain ⟨e, he, rfl⟩ := List.mem_map.mp hq
    exact h2 d hd e he
  · rcases h3 with h3 | h3
    · refine .inl fun p hp => ?_
      obtain ⟨d, hd, rfl⟩ := List.mem_map.mp hp
      have := h3 d hd
      unfold tupP at this
      split at this
      · rename_i x r e; exact ⟨x, r, e⟩
      · cases this
    · refine .inr fun p hp => ?_
      obtain ⟨d, hd, rfl⟩ := List.mem_map.mp hp
      have := h3 d hd
      refine ⟨fun z => ?_, fun xs z => ?_⟩
      · rw [z] at this; cases this
      · rw [z] at this; cases this
section
variable {Z : Zt} {Y : Addr → Prop} {H : Hp}
theorem repL_of : ∀ {ps : List (V × D)}, (∀ p ∈ ps, Rep Z Y H p.2 p.1) → RepL Z Y H (ps.map (·.2)) (ps.map (·.1))
  | [], _ => RepL.nil
  | p :: ps, h => by
    simp only [List.map_cons, RepL]
    exact ⟨_, _, rfl, h p List.mem_cons_self, repL_of fun q hq => h q (List.mem_cons_of_mem _ hq)⟩
theorem repL_zip : ∀ {ds : List D} {vs : List V}, RepL Z Y H ds vs → (∀ p ∈ vs.zip ds, Rep Z Y H p.2 p.1) ∧ (vs.zip ds).map (·.2) = ds ∧ (vs.zip ds).map (·.1) = vs
  | [], vs, h => by simp only [RepL] at h; subst h; simp
  | d :: ds, vs, h => by
    simp only [RepL] at h
    obtain ⟨v, vr, rfl, r, h⟩ := h
    obtain ⟨h1, h2, h3⟩ := repL_zip h
    refine ⟨fun p hp => ?_, by simp [h2], by simp [h3]⟩
    rw [List.zip_cons_cons] at hp
    rcases List.mem_cons.mp hp with rfl | hp
    · exact r
    · exact h1 p hp
end
theorem each_vals : ∀ {ps : List (V × D)} {us : List Value}, Vals (ps.map (·.1)) us → PySem.W.EachIs (fun u (p : V × D) => RelV p.1 u) us ps
  | [], us, r => by cases r; exact .nil
  | p :: ps, us, r => by
    cases r with
    | cons h t => exact .cons h (each_vals t)
theorem vals_each : ∀ {ps : List (V × D)} {us : List Value}, PySem.W.EachIs (fun u (p : V × D) => RelV p.1 u) us ps → Vals (ps.map (·.1)) us
  | _, _, .nil => .nil
  | _, _, .cons h t => .cons h (vals_each t)
theorem each_imp {α β : Type} {R S : α → β → Prop} : ∀ {as : List α} {bs : List β}, PySem.W.EachIs R as bs → (∀ a b, b ∈ bs → R a b → S a b) → PySem.W.EachIs S as bs
  | _, _, .nil, _ => .nil
  | _, _, .cons h t, k => .cons (k _ _ List.mem_cons_self h) (each_imp t fun a b hb => k a b (List.mem_cons_of_mem _ hb))
section
open PySem.W
variable {prog : Program} {w : World} {A : Around} {E : Value → Shared → Prop} {s : Shared} {β : Type} {vs : List Value} {bs : List β} {enc : β → PyData} {R : Value → β → Prop}
/-- the items of a tuple, collected -/
theorem collect_tup {t : Addr} {ws : List Value} {P : List Value → Shared → Prop} (ht : s.heap.IsTuple t ws.toArray)
    (go : P ws { s with heap := (s.heap.push (seqObj "list" #[] 0)).update s.heap.objs.size (Obj.mapSeq (· ++ ws.toArray)) }) (hz : ws.length ≤ sizeLine) : wpAny (model prog w) A (collect (.ref t)) P E s := by
  obtain ⟨ob, h1, h2, m, h3⟩ := id ht
  unfold collect
  refine wpAny_bind (wpAny_runValue (codeAny_builtin entry_proto_collect' ?_))
  show wpAny _ _ (do again (.builtin "list.__iadd__" ⟨[← newList [], .ref t], []⟩)) _ _ s
  refine wpAny_bind (wpAny_newList (wpAny_pure ⟨Code.quiet_builtin _ (by decide +kernel), codeAny_builtin entry_list_iadd' ?_⟩))
  show wpAny _ _ (Builtin.List.listExtendWith (.ref s.heap.objs.size) (.ref t) (.ref s.heap.objs.size)) _ _ { s with heap := s.heap.push (seqObj "list" #[] 0) }
  unfold Builtin.List.listExtendWith
  have h4 : (s.heap.push (seqObj "list" #[] 0)).get? t = some ob := Heap.get?_push_of_some _ h1
  refine wpAny_bind (wpAny_typeOf (T := "tuple") ⟨ob, h4, h2⟩ ?_)
  have tt : (Value.type "tuple" == Value.type "tuple") = true := by rfl
  rw [if_pos (by rw [tt]; simp)]
  refine wpAny_bind (listItems_at h4 h3 ?_)
  refine wpAny_bind (listItems_at (xs := #[]) (n := 0) (Heap.get?_push_size _ rfl) rfl ?_)
  rw [if_neg (by simp)]
  refine wpAny_bind (listUpdate_at (xs := #[]) (n := 0) (Heap.get?_push_size _ rfl) rfl ?_ (Nat.zero_le _) (by show (#[] ++ ws.toArray).size ≤ sizeLine + 1; simp only [Array.size_append, List.size_toArray, List.length_nil]; omega))
  refine wpAny_pure ?_
  show wpAny (model prog w) A (do
      let o ← load s.heap.objs.size
      match o.data with
      | .seq xs _ => pure xs.toList
      | _ => unsupported "internal:collect") P E { s with heap := (s.heap.push (seqObj "list" #[] 0)).update s.heap.objs.size (Obj.mapSeq (· ++ ws.toArray)) }
  refine wpAny_bind (wpAny_load (get?_update_seq (Heap.get?_push_size _ rfl) _) ?_)
  show wpAny _ _ (pure ((#[] : Array Value) ++ ws.toArray).toList) P E _
  rw [show ((#[] : Array Value) ++ ws.toArray).toList = ws by simp]
  exact wpAny_pure go
theorem sorted_tupD {t : Addr} {Q : Value → Shared → Prop} (ht : s.heap.IsTuple t vs.toArray) (e : EachIs R vs bs) (er : EachIs (fun v b => ∃ as, Reads s.heap v (enc b) as) vs bs) (hal : AllAlike (bs.map enc)) (hk : Sortable (bs.map enc)) (hL : bs.length ≤ sizeLine)
    (hu : ∀ b, b ∈ bs → A.units + 2 + (enc b).depth < cLine) (h : ∀ out, out.length = bs.length → EachIs R out (bs.mergeSort (dataLe false enc)) → Q (.ref (s.heap.objs.size + 1)) { s with heap := sortedAll s.heap vs (List.toArray out) }) :
    wpAny (model prog w) A (call (.builtin "sorted") [.ref t]) Q E s := by
  have hz : vs.length ≤ sizeLine := by rw [e.length]; exact hL
  have er' : EachIs (fun v b => ∃ as, Reads (sortingHeap (copyHeap s.heap vs) (s.heap.objs.size + 1) vs) v (enc b) as) vs bs := er.mono fun _ _ ⟨as, r⟩ => ⟨as, PyProof.Rows.Reads.keeps (fun _ _ => sorting_copy_old) r⟩
  have key := SortsAt.data (prog := prog) (w := w) (A := A.in1.in1) (s := { s with heap := sortingHeap (copyHeap s.heap vs) (s.heap.objs.size + 1) vs }) (each_map (R := fun v d => ∃ as, Reads (sortingHeap (copyHeap s.heap vs) (s.heap.objs.size + 1) vs) v d as) enc er') hal hk (bound_map hu)
  refine call_function_entry_kw kind_sorted plain_sorted entry_sorted (args_sorted1 _) ?_
  unfold Builtin.«sorted»
  refine wpAny_bind (m := checkCount "sorted" 1 1 _) (wpAny_pure ?_)
  refine wpAny_bind (collect_tup ht ?_ hz)
  refine wpAny_bind (wpAny_newList ?_ hz)
  have sz : ((s.heap.push (seqObj "list" #[] 0)).update s.heap.objs.size (Obj.mapSeq (· ++ vs.toArray))).objs.size = s.heap.objs.size + 1 := by
    rw [Heap.size_update, size_push']
  show wpAny _ _ _ _ _ { s with heap := copyHeap s.heap vs }
  rw [sz]
  refine wpAny_bind (wpAny_holding (wpAny_call_entry_kw slot_list_sort ⟨_, copyHeap_at s.heap vs, rfl⟩ entry_list_sort ?_ (args_list_sort _)))
  show wpAny (model prog w) A.in1.in1 (Builtin.«list.sort» ⟨[.ref (s.heap.objs.size + 1)], []⟩) _ _ _
  refine list_sort_vals (s := { s with heap := copyHeap s.heap vs }) (copyHeap_at s.heap vs) key hz ⟨_, rfl, wpAny_pure ⟨_, rfl, ?_⟩⟩
  exact h _ (by rw [sortVals_length false rfl]; exact e.length) (sortVals_data false e er' hal)
end
section
variable {X : Cx} {Z : Zt}
theorem od_sorted (hK : X.K = Z.K) (hu : X.A.units + 80 < cLine) : CallR X (.builtin "sorted") (rD Z gSorted) := by
  intro pins s σ H xs us Q I r h
  obtain ⟨Y, ds, d, hx, hv, hg, q⟩ := h
  -- what both kinds have in common
  have core : ∀ {ls : List D} {zs : List V} {its : List Value}, RepL Z Y H ls zs → Vals zs its → sok ls = true → d = .lst (sortD ls) → ∀ (P : Prop),
      ((∀ b, b ∈ zs.zip ls → X.A.units + 2 + (encD b.2).depth < cLine) → (zs.zip ls).length ≤ sizeLine → PySem.W.AllAlike ((zs.zip ls).map fun b => encD b.2) → PySem.W.Sortable ((zs.zip ls).map fun b => encD b.2) → PySem.W.EachIs (fun u (p : V × D) => RelV p.1 u) its (zs.zip ls) → PySem.W.EachIs (fun v b => ∃ as, Reads s.heap v (encD b.2) as) its (zs.zip ls) →
        (∀ out, out.length = (zs.zip ls).length → PySem.W.EachIs (fun u (p : V × D) => RelV p.1 u) out ((zs.zip ls).mergeSort (PySem.W.dataLe false fun b : V × D => encD b.2)) → EP X pins σ Q (.ref (s.heap.objs.size + 1)) { s with heap := sortedAll s.heap its (List.toArray out) }) → P) → P := by
    intro ls zs its rl rv hs hd P go
    obtain ⟨k1, k2, k3, k4⟩ := sok_ok hs
    obtain ⟨z1, z2, z3⟩ := repL_zip rl
    have em : (zs.zip ls).map (fun b => encD b.2) = ls.map encD := by
      have t : (zs.zip ls).map (fun b => encD b.2) = ((zs.zip ls).map (·.2)).map encD := by rw [List.map_map]; rfl
      rw [t, z2]
    have mem2 : ∀ b ∈ zs.zip ls, b.2 ∈ ls := fun b hb => (List.of_mem_zip hb).2
    have lz : (zs.zip ls).length = ls.length := by rw [← List.length_map (f := (·.2)) (as := zs.zip ls), z2]
    have ev := each_vals (ps := zs.zip ls) (us := its) (by rw [z3]; exact rv)
    refine go (fun b hb => ?_) (by rw [lz]; exact lim_line k4) (by rw [em]; exact k2) (by rw [em]; exact k3) ev (each_imp ev fun u b hb hr => ?_) fun out ho eo => ?_
    · have := SeqAt.depth_of_shaped (k1 b.2 (mem2 b hb)).2
      omega
    · exact Dp.reads I _ b.1 u (by rw [hK]; exact vw_dp (.inl (z1 b hb)) (k1 b.2 (mem2 b hb)).1) hr
    · have pm := List.mergeSort_perm (zs.zip ls) (PySem.W.dataLe false fun b : V × D => encD b.2)
      have es : ((zs.zip ls).mergeSort (PySem.W.dataLe false fun b : V × D => encD b.2)).map (·.2) = sortD ls := by
        refine (List.map_mergeSort (f := fun p : V × D => p.2) (s := PySem.W.dataLe false encD) (fun a _ b _ => rfl)).trans ?_
        rw [z2]; rfl
      obtain ⟨ep, hat⟩ := PyProof.Rows.sortedAll_at s.heap its out.toArray
      generalize hso : (zs.zip ls).mergeSort (PySem.W.dataLe false fun b : V × D => encD b.2) = so at eo pm es
      have fresh := I.hok.fresh (Nat.le_succ s.heap.objs.size)
      have len : (so.map (·.1)).length ≤ sizeLine := by rw [List.length_map, pm.length_eq, lz]; exact lim_line k4
      refine ⟨.ref _, upd H (s.heap.objs.size + 1) (.lst (so.map (·.1))), I.laid (t' := s.toks) (fun _ _ => PyProof.Rows.sortedAll_old) (Nat.le_succ _) ⟨len, out, ep, vals_each eo, hat⟩, rfl, ?_⟩
      refine q _ _ (same_new fresh) ?_
      rw [hd, ← es]
      exact rep_lst hx fresh (repL_of fun p hp => z1 p (pm.mem_iff.mp hp))
  unfold gSorted at hg
  split at hg
  · rename_i ls
    obtain ⟨v, rfl, h1⟩ := vwl1 hv rfl
    obtain ⟨a, zs, rfl, ha, rl⟩ := vw_lst h1
    by_cases hs : sok ls = true
    · rw [if_pos hs] at hg
      cases hg
      obtain ⟨its, rv, hl, hz⟩ := I.list (.of ha : SqL X.K H a zs)
      rw [Vals.ref1 r]
      exact core rl rv hs rfl _ fun c1 c2 c3 c4 c5 c6 c7 => PySem.W.sorted_data hl.isList c5 c6 c3 c4 c2 c1 c7
    · rw [if_neg hs] at hg; cases hg
  · rename_i ls
    obtain ⟨v, rfl, h1⟩ := vwl1 hv rfl
    obtain ⟨a, zs, rfl, ha, rl⟩ := vw_tup h1
    by_cases hs : sok ls = true
    · rw [if_pos hs] at hg
      cases hg
      obtain ⟨its, rv, hl, hz⟩ := I.tuple (show SqT X.K H a zs by rw [hK]; exact ha)
      rw [Vals.ref1 r]
      exact core rl rv hs rfl _ fun c1 c2 c3 c4 c5 c6 c7 => sorted_tupD hl c5 c6 c3 c4 c2 c1 c7
    · rw [if_neg hs] at hg; cases hg
  · cases hg
end
end PD

set_option linter.all false
set_option maxRecDepth 100000
set_option maxHeartbeats 1000000
/-! PD23: small rules. -/
namespace PD
open PySem PySem.Spec PyProof.Rows L2

/-! ### isinstance(e, (T1, T2)) -/
def gIsi2 (T1 T2 : String) : List D → Option D
  | [d] => (tyD d).bind fun t => (kitB t T1).bind fun b1 => (kitB t T2).map fun b2 => .bl (b1 || b2)
  | _ => none
section
variable {X : Cx} {Z : Zt} {Γ : Gm} {e : Expr} {fa : S → R W} {pos p p1 p2 tp : Pos} {kk : Nat}
theorem de_isi2 {T1 T2 : Str} {n1 n2 : String} (hK : X.K = Z.K) (hg : Gl X "isinstance") (hm : X.mg "isinstance" = none) (hg1 : Gl X T1) (hm1 : X.mg T1 = none) (hg2 : Gl X T2) (hm2 : X.mg T2 = none) (hv1 : bootBuiltins T1 = some (.type n1)) (hv2 : bootBuiltins T2 = some (.type n2)) (ha : PE X e (tE Z Γ fa))
    (hn1 : T1 ≠ "__name__" := by decide) (hd1 : (T1 == ("__debug__" : Str)) = false := by decide) (hn2 : T2 ≠ "__name__" := by decide) (hd2 : (T2 == ("__debug__" : Str)) = false := by decide)
    (he : starEach [e, .Tuple [.Name T1 p1, .Name T2 p2] kk tp] X.env = (false, eval e X.env) :: starEach [.Tuple [.Name T1 p1, .Name T2 p2] kk tp] X.env := by rfl)
    (he2 : starEach [.Tuple [.Name T1 p1, .Name T2 p2] kk tp] X.env = (false, eval (.Tuple [.Name T1 p1, .Name T2 p2] kk tp) X.env) :: starEach [] X.env := by rfl)
    (he3 : starEach [.Name T1 p1, .Name T2 p2] X.env = (false, eval (.Name T1 p1) X.env) :: starEach [.Name T2 p2] X.env := by rfl) (he4 : starEach [.Name T2 p2] X.env = (false, eval (.Name T2 p2) X.env) :: starEach [] X.env := by rfl)
    (hpl : (backTo pos (starEach [.Tuple [.Name T1 p1, .Name T2 p2] kk tp] X.env)).any (·.1) = false := by rfl) :
    PE X (.Call (.Name "isinstance" p) [e, .Tuple [.Name T1 p1, .Name T2 p2] kk tp] [] pos) (tE Z Γ (eUn (gIsi2 n1 n2) fa)) := by
  have tu := pe_tup (X := X) (x1 := kk) (pos := tp) (pa_cons (pe_bltn (pos := p1) (v := .ty n1) hg1 hm1 hv1 rfl hn1 hd1) (pa_cons (pe_bltn (pos := p2) (v := .ty n2) hg2 hm2 hv2 rfl hn2 hd2) pa_nil he4) he3)
  refine pe_imp (pe_callB call_isiT hg hm (by decide +kernel) (pa_cons ha (pa_cons tu pa_nil he2) he) (he := he) (hpl := hpl)) fun σ H Q h => ?_
  obtain ⟨s, Lv, R0, po⟩ := h
  refine ⟨s, Lv, R0, po.bind.mono fun v H1 ⟨w, s1, Lv1, _, R1, F1, r1, po1⟩ => ?_⟩
  refine ⟨by simp only [List.length_cons, List.length_nil]; decide, fun q np => ?_⟩
  have sm := same_new (o := .tup [.ty n1, .ty n2]) np
  have R2 := R1.same sm
  cases e1 : rdW s1 w with
  | none => rw [e1] at po1; exact po1.elim
  | some d =>
    rw [e1] at po1
    simp only [Option.bind_some, gIsi2] at po1
    have vw := rd_ok R2 (r1.mono (Fw.same sm)) e1
    cases e2 : tyD d with
    | none => rw [e2] at po1; exact po1.elim
    | some t =>
      rw [e2] at po1
      simp only [Option.bind_some] at po1
      cases e3 : kitB t n1 with
      | none => rw [e3] at po1; exact po1.elim
      | some b1 =>
        cases e4 : kitB t n2 with
        | none => rw [e3, e4] at po1; exact po1.elim
        | some b2 =>
          rw [e3, e4] at po1
          refine ⟨v, q, [.ty n1, .ty n2], .type t, [.type n1, .type n2], b1 || b2, rfl, upd_same, .cons (.ty n1) (.cons (.ty n2) .nil), by rw [hK]; exact vw_ty vw e2, ?_, ?_⟩
          · refine kitAny_cons (kit_ty e3) (fun hb => ?_) fun hb => by rw [hb]; rfl
            rw [hb]
            refine kitAny_cons (kit_ty e4) (fun hb2 => ?_) fun hb => by rw [hb]; rfl
            rw [hb2]; rfl
          · exact po1.ok' R1 sm (rep_bl (Z := Z) (Y := Γ.X Lv1) (H := upd H1 q (.tup [.ty n1, .ty n2])))
end

/-! ### max, min of a list; list(range(..)); e[::-1] -/
def gMaxL : List D → Option D
  | [.lst ds] => (allInt ds).bind fun ns => ns.max?.map .int
  | _ => none
def gMinL : List D → Option D
  | [.lst ds] => (allInt ds).bind fun ns => ns.min?.map .int
  | _ => none
def gRev : List D → Option D
  | [.lst ds] => some (.lst ds.reverse)
  | _ => none
section
variable {X : Cx} {Z : Zt} {Γ : Gm} {e : Expr} {fa fb : S → R W} {pos p p1 p2 p3 : Pos} {kk : Nat}
theorem od_maxL (hc : X.calm = true) : CallR X (.builtin "max") (rD Z gMaxL) := by
  intro pins s σ H xs us Q I r h
  obtain ⟨Y, ds, d, hx, hv, hg, q⟩ := h
  unfold gMaxL at hg
  split at hg
  · rename_i ls
    obtain ⟨v, rfl, h1⟩ := vwl1 hv rfl
    obtain ⟨a, vs, rfl, ha, rl⟩ := vw_lst h1
    cases e : allInt ls with
    | none => rw [e] at hg; cases hg
    | some ns =>
      rw [e] at hg
      simp only [Option.bind_some] at hg
      cases e2 : ns.max? with
      | none => rw [e2] at hg; cases hg
      | some m =>
        rw [e2] at hg
        cases hg
        rw [allInt_map rl e] at ha
        obtain ⟨m1, m2⟩ := List.max?_eq_some_iff.mp e2
        refine cr_max hc pins s σ H _ us Q I r ⟨a, ns, rfl, .of ha, List.length_pos_of_mem m1, fun m' h1 h2 => ?_⟩
        have : m' = m := Int.le_antisymm (m2 _ h1) (h2 _ m1)
        rw [this]
        exact q _ H (Same.refl H) rep_int
  · cases hg
theorem od_minL (hc : X.calm = true) : CallR X (.builtin "min") (rD Z gMinL) := by
  intro pins s σ H xs us Q I r h
  obtain ⟨Y, ds, d, hx, hv, hg, q⟩ := h
  unfold gMinL at hg
  split at hg
  · rename_i ls
    obtain ⟨v, rfl, h1⟩ := vwl1 hv rfl
    obtain ⟨a, vs, rfl, ha, rl⟩ := vw_lst h1
    cases e : allInt ls with
    | none => rw [e] at hg; cases hg
    | some ns =>
      rw [e] at hg
      simp only [Option.bind_some] at hg
      cases e2 : ns.min? with
      | none => rw [e2] at hg; cases hg
      | some m =>
        rw [e2] at hg
        cases hg
        rw [allInt_map rl e] at ha
        obtain ⟨m1, m2⟩ := List.min?_eq_some_iff.mp e2
        refine cr_min hc pins s σ H _ us Q I r ⟨a, ns, rfl, .of ha, List.length_pos_of_mem m1, fun m' h1 h2 => ?_⟩
        have : m' = m := Int.le_antisymm (h2 _ m1) (m2 _ h1)
        rw [this]
        exact q _ H (Same.refl H) rep_int
  · cases hg
theorem de_rev (hK : X.K = Z.K) (he : PE X e (tE Z Γ fa)) : PE X (.Subscript e (.Slice none none (some (.UnaryOp .USub (.Constant (.int 1) kk p1) p2)) p3) pos) (tE Z Γ (eUn gRev fa)) := by
  refine pe_imp (pe_revL he) fun σ H Q h => ?_
  obtain ⟨s, Lv, R0, po⟩ := h
  refine ⟨s, Lv, R0, po.bind.mono fun v H1 ⟨w, s1, Lv1, _, R1, F1, r1, po1⟩ => ?_⟩
  cases e1 : rdW s1 w with
  | none => rw [e1] at po1; exact po1.elim
  | some d =>
    rw [e1] at po1
    simp only [Option.bind_some] at po1
    cases e2 : gRev [d] with
    | none => rw [e2] at po1; exact po1.elim
    | some r =>
      rw [e2] at po1
      simp only [Option.map_some, ofO_some] at po1
      unfold gRev at e2
      split at e2
      · rename_i ds eq
        cases eq; cases e2
        obtain ⟨a, vs, rfl, ha, rl⟩ := vw_lst (rd_ok R1 r1 e1)
        refine ⟨a, vs, rfl, .of ha, fun q np => po1.ok' R1 (same_new np) (rep_lst (fun a h => R1.xs h) np ?_)⟩
        have rev : ∀ {ds : List D} {vs : List V}, RepL Z (Γ.X Lv1) H1 ds vs → RepL Z (Γ.X Lv1) H1 ds.reverse vs.reverse := by
          intro ds
          induction ds with
          | nil => intro vs h; simp only [RepL] at h; subst h; exact RepL.nil
          | cons d ds ih =>
            intro vs h
            simp only [RepL] at h
            obtain ⟨v, vr, rfl, r, h⟩ := h
            rw [List.reverse_cons, List.reverse_cons]
            exact (ih h).app (RepL.one r)
        exact rev rl
      · cases e2
end
def gLRg1 : List D → Option D
  | [.int n] => if 0 ≤ n ∧ n ≤ 1000000 then some (.lst ((List.range n.toNat).map fun k : Nat => D.int (k : Int))) else none
  | _ => none
section
variable {X : Cx} {Z : Zt} {Γ : Gm} {a : Expr} {fa : S → R W} {pos p q1 q2 : Pos}
theorem de_lrg1 (hc : X.calm = true) (hgl : Gl X "list") (hml : X.mg "list" = none) (hg : Gl X "range") (hm : X.mg "range" = none) (ha : PE X a (tE Z Γ fa)) (na : starEach [a] X.env = (false, eval a X.env) :: starEach [] X.env := by rfl)
    (nb : starEach [.Call (.Name "range" q1) [a] [] q2] X.env = (false, eval (.Call (.Name "range" q1) [a] [] q2) X.env) :: starEach [] X.env := by rfl) : PE X (.Call (.Name "list" p) [.Call (.Name "range" q1) [a] [] q2] [] pos) (tE Z Γ (eUn gLRg1 fa)) := by
  refine pe_imp (pe_listRg hc hgl hml (prg_1 hg hm ha na) nb) fun σ H Q h => ?_
  obtain ⟨s, Lv, R0, po⟩ := h
  refine ⟨s, Lv, R0, po.bind.mono fun v H1 ⟨w, s1, Lv1, _, R1, F1, r1, po1⟩ => ?_⟩
  cases e1 : rdW s1 w with
  | none => rw [e1] at po1; exact po1.elim
  | some d =>
    rw [e1] at po1
    simp only [Option.bind_some] at po1
    cases e2 : gLRg1 [d] with
    | none => rw [e2] at po1; exact po1.elim
    | some r =>
      rw [e2] at po1
      simp only [Option.map_some, ofO_some] at po1
      unfold gLRg1 at e2
      split at e2
      · rename_i n eq
        cases eq
        by_cases hn : 0 ≤ n ∧ n ≤ 1000000
        · rw [if_pos hn] at e2
          cases e2
          refine ⟨n, vw_int (rd_ok R1 r1 e1), ?_, fun q np => po1.ok' R1 (same_new np) (rep_lst (fun a h => R1.xs h) np ?_)⟩
          · exact RgOk.of_le (Int.le_refl 0) (by omega) (by omega) hn.1
          · have k : ∀ ks : List Nat, RepL Z (Γ.X Lv1) H1 (ks.map fun k : Nat => D.int (k : Int)) (ks.map fun i : Nat => V.int (0 + (i : Int))) := by
              intro ks
              induction ks with
              | nil => exact RepL.nil
              | cons k ks ih =>
                simp only [List.map_cons, RepL]
                exact ⟨_, _, rfl, by simp only [Rep, Int.zero_add], ih⟩
            unfold rgV
            rw [Int.sub_zero]
            exact k _
        · rw [if_neg hn] at e2; cases e2
      · cases e2
end
end PD

set_option linter.all false
set_option maxRecDepth 100000
set_option maxHeartbeats 1000000
/-! PD24: what the generated texts lean on. -/
namespace PD
open PySem PySem.Spec PyProof.Rows L2 LamX NdefX

theorem room65 {k : Nat} {A : Around} (r : Room k A) : A.units + 65 < cLine := by have := r.un; omega
theorem room80 {k : Nat} {A : Around} (r : Room k A) : A.units + 80 < cLine := by have := r.un; omega
theorem room1 {k : Nat} {A : Around} (r : Room k A) : A.units + 1 < cLine := by have := r.un; omega
def iAdd : Int → Int → Option Int := fun a b => some (a + b)
def iSub : Int → Int → Option Int := fun a b => some (a - b)
def iMul : Int → Int → Option Int := fun a b => if (small a && small b) = true then some (a * b) else none
theorem ipo_mul : IpOk .Mult iMul := ⟨fun X pins s σ H a b c v u Q I r1 r2 e q => by
  unfold iMul at e
  split at e
  · rename_i hm
    cases e
    obtain ⟨t, rfl⟩ := r1
    obtain ⟨t', rfl⟩ := r2
    exact imul_int (hm := (mulW_of hm).ok) ⟨.int _, H, I.tok _, ⟨_, rfl⟩, q⟩
  · cases e⟩
section
variable {X : Cx} {Γ : Gm} {j : Nat} {f c : Addr} {F : NF} {b : Expr}
theorem px_lam (h : PX X Γ) : PX X (Γ.lam j f c F b) := h
theorem econst_lam (h : EConst Γ) : EConst (Γ.lam j f c F b) := h
theorem px_hold {L : List Addr} {H : Hp} (h : PX X Γ) : PX X (Γ.hold L H) := h
theorem econst_hold {L : List Addr} {H : Hp} (h : EConst Γ) : EConst (Γ.hold L H) := h
end
theorem two_of {α : Type} : ∀ {us : List α}, us.length = 2 → ∃ a b, us = [a, b]
  | [a, b], _ => ⟨a, b, rfl⟩
section
variable {P : Program} {w : World} {Z : Zt} {base : Heap}
/-- a def by its body, its code object known -/
theorem okPc {x qual : Str} {st : Stmt} {f c : Addr} {fd : FuncData} {N ps : List Str} {k : Nat} {body : S → SR} (F : Fun Z.K x qual st f fd) (Sc : FnScope N ps (defScope st)) (hc : fd.code = .ref c)
    (hb : ∀ (A : Around) (outer : List Env) (s : Shared) (Y : Addr → Prop) (H : Hp) (E : XK), Room k (A.deeper (envOfC qual (defScope st) s.heap.objs.size f (.ref c))) →
      PSs (cxOf (L2.CX P w) P w Z.K Z.mg base N qual (defScope st) f (.ref c) A outer s H E) (defBody st) (tS Z (Gp Y H E) body)) :
    FnOk P w Z.K Z.mg base (L2.CX P w) (k + 1) f fd ps (spP Z ps.length (runP N.length body)) := by
  obtain ⟨oc, od, kV, doc, pm, an, cdv, ct, osl, rfl, lk, hcd⟩ := F.ex
  have e : cdv = .ref c := hc
  subst e
  refine fn_of lk hcd Sc (fun vs H Q E h => h.1) fun A outer s H vs Q E hr h => ?_
  obtain ⟨hl, Y, ds, hY, tb, r, po⟩ := h
  refine ⟨_, hb A outer s Y H E hr, _, _, rl_start (N := N) (E := E) hY tb r, ps_goP (Γ := Gp Y H E) rfl rfl rfl (fun cls d σ H' h => h) ?_⟩
  unfold goP
  cases e : runP N.length body ds with
  | ok r => rw [e] at po; exact po
  | er c ns ds => rw [e] at po; exact po
  | st => rw [e] at po; exact po
/-- nothing is promised: what every def keeps -/
theorem ok_st {f : Addr} {fd : FuncData} {ps : List Str} {n : Nat} : FnOk P w Z.K Z.mg base (L2.CX P w) 0 f fd ps (spP Z n fun _ => .st) := by
  constructor
  · intro vs H Q E h
    obtain ⟨_, _, _, _, _, _, h⟩ := h
    exact h.elim
  · intros
    rename_i h
    obtain ⟨_, _, _, _, _, _, h⟩ := h
    exact h.elim
end

theorem nscope_lam {X : Cx} {params : Arguments} {scope : Scope} {c : Addr} {N ps fr : List Str} (h : nscB N ps fr scope = true) : NScope N ps fr (nfOf X params scope c).scope := nscope_by h
/-! ### displays of dicts -/
theorem bl_in2 : BlOnly gIn2 := fun ds d h => by
  unfold gIn2 at h
  split at h
  · rename_i k ks vs
    cases e : keyD k with
    | none => rw [e] at h; cases h
    | some k' => rw [e] at h; cases h; exact ⟨_, rfl⟩
  · exact bl_in _ _ h
theorem bl_notIn2 : BlOnly gNotIn2 := fun ds d h => by
  unfold gNotIn2 at h
  split at h
  · rename_i k ks vs
    cases e : keyD k with
    | none => rw [e] at h; cases h
    | some k' => rw [e] at h; cases h; exact ⟨_, rfl⟩
  · exact bl_notIn _ _ h
def kNil : S → R (List (Key × D)) := fun s => .ok [] s
def kCons (fk fv : S → R W) (g : S → R (List (Key × D))) : S → R (List (Key × D)) := fun s => (fk s).bind fun w s1 => (fv s1).bind fun u s2 => (g s2).bind fun r s3 => match (fzW w).bind keyD, fzW u with
  | some k, some d => .ok ((k, d) :: r) s3
  | _, _ => .st
def mergeD (kds : List (Key × D)) : List Key × List D := kds.foldl (fun acc kd => (putKs acc.1 kd.1, putVs acc.1 acc.2 kd.1 kd.2)) ([], [])
def rDisp (g : S → R (List (Key × D))) : S → R Rv := fun s => (g s).bind fun kds s1 => if kds.length ≤ 15 then .ok (.o (.dic (mergeD kds).1 (mergeD kds).2)) s1 else .st
def KRepL (Z : Zt) (X : Addr → Prop) (H : Hp) : List (Key × D) → List (V × V) → Prop
  | [], ps => ps = []
  | kd :: r, ps => ∃ v pr, ps = (kV kd.1, v) :: pr ∧ Rep Z X H kd.2 v ∧ KRepL Z X H r pr
def tK (Z : Zt) (Γ : Gm) (g : S → R (List (Key × D))) : L2.St → Hp → (List (V × V) → Hp → Prop) → Prop := fun σ H Q => ∃ s Lv, Rl Z Γ s Lv σ H ∧ Po Z Γ (fun X _ H => KRepL Z X H) (g s) Lv σ H Q
structure DKs (X : Cx) (pos : Pos) (keys : List (Option Expr)) (values : List Expr) (Z : Zt) (Γ : Gm) (g : S → R (List (Key × D))) : Prop where
  ex : ∃ trs, PPs X pos keys values trs ∧ ∀ L H0 σ H Q, tK Z (Γ.hold L H0) g σ H Q → tPairs trs σ H Q
section
variable {X : Cx} {Z : Zt} {Γ : Gm} {k v : Expr} {keys : List (Option Expr)} {values : List Expr} {fk fv : S → R W} {g : S → R (List (Key × D))} {pos : Pos}
theorem dk_nil : DKs X pos [] [] Z Γ kNil := ⟨[], pps_nil, fun L H0 σ H Q ⟨s, Lv, R0, po⟩ => po.ok R0 rfl⟩
theorem dk_cons (hk : ∀ L H0, PE X k (tE Z (Γ.hold L H0) fk)) (hv : ∀ L H0, PE X v (tE Z (Γ.hold L H0) fv)) (hr : DKs X pos keys values Z Γ g) : DKs X pos (some k :: keys) (v :: values) Z Γ (kCons fk fv g) := by
  obtain ⟨trs, h1, h2⟩ := hr.ex
  refine ⟨(fun σ H Q => ∃ L H0, tE Z (Γ.hold L H0) fk σ H Q, fun σ H Q => ∃ L H0, tE Z (Γ.hold L H0) fv σ H Q) :: trs, pps_cons ⟨fun pins s σ H Q I ⟨L, H0, h⟩ => (hk L H0).run pins s σ H Q I h⟩ ⟨fun pins s σ H Q I ⟨L, H0, h⟩ => (hv L H0).run pins s σ H Q I h⟩ h1, fun L H0 σ H Q h => ?_⟩
  obtain ⟨s, Lv, R0, po⟩ := h
  refine ⟨L, H0, s, Lv, R0, po.bind.mono fun x H1 ⟨w, s1, Lv1, _, R1, F1, r1, po1⟩ => ⟨L, H0, s1, Lv1, R1, po1.bind.mono fun y H2 ⟨u, s2, Lv2, _, R2, F2, r2, po2⟩ => h2 L H0 σ H2 _ ⟨s2, Lv2, R2, po2.bind.mono fun ps H3 ⟨r, s3, Lv3, _, R3, F3, r3, po3⟩ => ?_⟩⟩⟩
  cases e1 : (fzW w).bind keyD with
  | none => rw [e1] at po3; exact po3.elim
  | some k' =>
    cases e2 : fzW u with
    | none => rw [e1, e2] at po3; exact po3.elim
    | some d =>
      rw [e1, e2] at po3
      cases e3 : fzW w with
      | none => rw [e3] at e1; cases e1
      | some kd =>
        rw [e3] at e1
        simp only [Option.bind_some] at e1
        have ek := keyD_rep (.inl (fz_ok r1 e3)) e1
        subst ek
        exact po3.ok R3 ⟨y, ps, rfl, (fz_ok r2 e2).mono F3, r3⟩
theorem kvs_of {Y : Addr → Prop} {H : Hp} : ∀ {kds : List (Key × D)} {ps : List (V × V)}, KRepL Z Y H kds ps → ∃ vs : List V, ps = (kds.map (·.1)).zipWith (fun k v => (kV k, v)) vs ∧ RepL Z Y H (kds.map (·.2)) vs
  | [], ps, h => ⟨[], h, RepL.nil⟩
  | kd :: r, ps, h => by
    obtain ⟨v, pr, rfl, r1, h⟩ := h
    obtain ⟨vs, rfl, r2⟩ := kvs_of h
    exact ⟨v :: vs, rfl, by simp only [List.map_cons, RepL]; exact ⟨v, vs, rfl, r1, r2⟩⟩
theorem merge_rep {Y : Addr → Prop} {H : Hp} : ∀ {kds : List (Key × D)} {vs : List V} {ks : List Key} {ds : List D} {us : List V}, RepL Z Y H (kds.map (·.2)) vs → ks.length = us.length → RepL Z Y H ds us →
    ∃ ws, mergeK (ks.zip us) ((kds.map (·.1)).zip vs) = (kds.foldl (fun acc kd => (putKs acc.1 kd.1, putVs acc.1 acc.2 kd.1 kd.2)) (ks, ds)).1.zip ws ∧
      (kds.foldl (fun acc kd => (putKs acc.1 kd.1, putVs acc.1 acc.2 kd.1 kd.2)) (ks, ds)).1.length = ws.length ∧ RepL Z Y H (kds.foldl (fun acc kd => (putKs acc.1 kd.1, putVs acc.1 acc.2 kd.1 kd.2)) (ks, ds)).2 ws
  | [], vs, ks, ds, us, h, hl, r => ⟨us, rfl, hl, r⟩
  | kd :: kds, vs, ks, ds, us, h, hl, r => by
    simp only [List.map_cons, RepL] at h
    obtain ⟨v, vr, rfl, r1, h⟩ := h
    have e : mergeK (ks.zip us) (((kd :: kds).map (·.1)).zip (v :: vr)) = mergeK ((putKs ks kd.1).zip (putVs ks us kd.1 v)) ((kds.map (·.1)).zip vr) := by
      rw [← putK_zip kd.1 v ks us hl]; rfl
    rw [e]
    exact merge_rep (kds := kds) h (put_length hl) (put_rep r1 r)
/-- the object that was held is written -/
theorem Rl.drop {s : S} {Lv : Nat → List Addr} {σ : L2.St} {H H1 : Hp} {p : Addr} {o o' : HO} (R : Rl Z (Γ.hold [p] H1) s Lv σ H) (h0 : Γ.H0 p = none) (hX : ¬ Γ.X0 p) (hB : ∀ a ∈ Γ.B, Γ.X0 a) (hP : ∀ a o, Γ.pin a o → Γ.X0 a ∨ Ext o) (np : ∀ o, ¬ Γ.pin p o) (ho : H p = some o) (ht : ∀ ps, o ≠ .tbl ps) (hc : ∀ c q, o ≠ LamX.CodeO c q) :
    Rl Z (Γ.plus [p]) s Lv σ (upd H p o') ∧ Fw Z ((Γ.hold [p] H1).X Lv) H ((Γ.plus [p]).X Lv) (upd H p o') := by
  have xp : (Γ.hold [p] H1).X0 p := .inr (by simp)
  have nL : ∀ i, p ∉ Lv i := fun i hi => by
    rcases R.lvb i p hi with z | z
    · exact hX (hB p z.2)
    · exact z.2 xp
  have F : Fw Z ((Γ.hold [p] H1).X Lv) H ((Γ.plus [p]).X Lv) (upd H p o') := by
    refine ⟨fun a u h n _ => ?_, fun a ps h => ?_, fun a h => .inl h, fun h q hq => tabs_upd ho ht hc (h q hq)⟩
    · rw [upd_ne fun z => n (by rw [z]; exact .inl xp)]; exact h
    · rw [upd_ne fun z => by rw [z, ho] at h; exact ht ps (Option.some.inj h)]
      exact ⟨ps, h⟩
  have ne : ∀ a u, H a = some u → a ≠ p → upd H p o' a = some u := fun a u h n => by rw [upd_ne n]; exact h
  have nn : ∀ a, H a ≠ none → upd H p o' a ≠ none := fun a h => by
    by_cases z : a = p
    · rw [z, upd_same]; simp
    · rw [upd_ne z]; exact h
  refine ⟨⟨R.len, fun i x hx => (R.sl i x hx).mono F fun a ha => upd_ne fun z => nL i (by rw [← z]; exact ha), R.out, R.nd, R.dj, R.lvb, fun a u h n t => ne a u (R.keep a u h n t) fun z => ?_, fun a ps h => ?_, fun a h => nn a (R.st0 a h), fun a h => nn a (R.x0 a h), fun a h => .inl (hB a h), F.tabs R.tb, R.bor, fun a u h => ?_⟩, F⟩
  · have h : Γ.H0 a = some u := h
    rw [z, h0] at h; cases h
  · obtain ⟨qs, e⟩ := R.ktbl a ps h
    exact F.ktbl a qs e
  · obtain ⟨p1, p2, p3, p4⟩ := R.pn a u (.inl h)
    exact ⟨(hP a u h).imp .inl id, p2, p3, ne a u p4 fun z => np u (by rw [← z]; exact h)⟩
theorem dr_disp (h : DKs X pos keys values Z Γ g) (hall : keys.all (·.isSome) = true) (hl : keys.length = values.length) (h0 : keys ≠ []) (h15 : keys.length ≤ 15) : PE X (.Dict keys values pos) (tR Z Γ (rDisp g)) := by
  obtain ⟨trs, hp, ht⟩ := h.ex
  refine pe_imp (pe_disp hp hall hl h0 h15) fun σ H Q h => ?_
  obtain ⟨s, Lv, R0, po⟩ := h
  intro p np
  obtain ⟨R1, F1, _, nw⟩ := new_own (o := .dK []) R0 np
  have R1h : Rl Z (Γ.hold [p] (upd H p (.dK []))) s Lv σ (upd H p (.dK [])) := by
    refine ⟨R1.len, R1.sl, R1.out, R1.nd, R1.dj, R1.lvb, R1.keep, R1.ktbl, R1.st0, R1.x0, R1.bx, R1.tb, R1.bor, fun a o h => ?_⟩
    rcases h with h | ⟨h1, h2, h3⟩
    · exact R1.pn a o h
    · exact ⟨.inl (.inr h1), .inl fun q => (nw a h1).1 (.inl (R0.bx a q)), h2, h3⟩
  have hpin : ∀ o, ¬ Γ.pin p o := fun o h => by
    have := (R0.pn p o h).2.2.2
    rw [np] at this; cases this
  have hX0 : ¬ Γ.X0 p := fun q => (nw p (by simp)).1 (.inl q)
  refine ht [p] (upd H p (.dK [])) σ _ _ ⟨s, Lv, R1h, ?_⟩
  unfold rDisp at po
  cases e1 : g s with
  | st => rw [e1] at po; exact po.elim
  | er c ns ds s1 =>
    rw [e1] at po
    intro cls d H' Lv' R' F' x
    have F2 : Fw Z (Gm.X (Γ.hold [p] (upd H p (.dK []))) Lv') H' (Γ.X Lv') H' := Fw.refl.less fun a h => by
      rcases h with h | h
      · exact .inl (.inl h)
      · exact .inr h
    refine po cls d H' Lv' (R'.less0 (L := [p]) rfl rfl rfl rfl R0.bx fun a o h => ?_) (F1.trans (F'.trans F2)) ?_
    · obtain ⟨_, p2, p3, p4⟩ := R'.pn a o (.inl h)
      exact ⟨R0.pinx a o h, p2, p3, p4⟩
    · obtain ⟨C, e1, e2, e3⟩ := x
      exact ⟨C, e1, e2, e3.imp id fun ⟨dd, vs, a, b, c, d⟩ => ⟨dd, vs, a, b, c, d.mono F2⟩⟩
  | ok kds s1 =>
    rw [e1] at po
    simp only [PD.R.bind_ok] at po
    intro ps H2 Lv2 R2 F2 r2
    by_cases hlen : kds.length ≤ 15
    · rw [if_pos hlen] at po
      have hp2 : H2 p = some (.dK []) := (R2.pn p _ (.inr ⟨by simp, fun ps z => (by cases z), upd_same⟩)).2.2.2
      obtain ⟨vs, ev, rv⟩ := kvs_of r2
      have hv := rv.length
      rw [List.length_map] at hv
      refine ⟨hp2, (kds.map (·.1)).zip vs, ?_, by rw [List.length_zip, List.length_map]; omega, ?_⟩
      · rw [ev]
        have z : ∀ (ks : List Key) (vs : List V), ks.zipWith (fun k v => (kV k, v)) vs = (ks.zip vs).map fun kv => (kV kv.1, kv.2) := by
          intro ks
          induction ks with
          | nil => intro vs; rfl
          | cons k ks ih => intro vs; cases vs with
            | nil => rfl
            | cons v vs => simp [ih]
        exact z _ _
      · obtain ⟨ws, m1, m2, m3⟩ := merge_rep (ks := []) (us := []) (ds := []) rv rfl RepL.nil
        obtain ⟨R3, F3⟩ := R2.drop (o' := .dK (mergeK [] ((kds.map (·.1)).zip vs))) ((nw p (by simp)).2) hX0 R0.bx R0.pinx hpin hp2 (fun ps z => by cases z) (fun c q z => by cases z)
        refine po (.ref p) _ Lv2 [p] R3 (F1.trans (F2.trans F3)) (by simp) (fun b hb => ?_) ⟨p, ws, rfl, rfl, m2, ?_, m3.mono F3⟩
        · rw [List.mem_singleton.mp hb]
          refine ⟨fun q => ?_, (nw p (by simp)).2⟩
          rcases q with q | ⟨i, q⟩
          · exact hX0 q
          · rcases R2.lvb i p q with z | z
            · exact hX0 (R0.bx p z.2)
            · exact z.2 (.inr (by simp))
        · rw [upd_same]
          have m1 : mergeK [] ((kds.map (·.1)).zip vs) = (mergeD kds).1.zip ws := m1
          rw [m1]
    · rw [if_neg hlen] at po; exact po.elim
end
end PD

set_option linter.all false
set_option maxRecDepth 100000
set_option maxHeartbeats 2000000
/-! PD25: comprehensions with two generators. -/
namespace PD
open PySem PySem.Spec PyProof.Rows L2

def lc2D (vs vs1 : List Nat) (t : D → S → R Unit) (c : S → R Bool) (fi1 : S → R (List D)) (t1 : D → S → R Unit) (c1 : S → R Bool) (f : S → R W) : List D → S → R (List D)
  | [], s => .ok [] s
  | d :: ds, s => match t d s with
    | .ok _ s1 => (c s1).bind fun b s2 => if b = true then (fi1 s2).bind fun ds1 s3 => if noOwn vs1 s3 = true then (match lcD vs1 t1 c1 f ds1 (clr vs1 s3) with
          | .ok xs s4 => if noOwn vs s4 = true then (lc2D vs vs1 t c fi1 t1 c1 f ds (clr vs s4)).bind fun ys s5 => .ok (xs ++ ys) s5 else .st
          | _ => .st) else .st
      else if noOwn vs s2 = true then lc2D vs vs1 t c fi1 t1 c1 f ds (clr vs s2) else .st
    | _ => .st
def eLc2D (vs vs1 : List Nat) (t : D → S → R Unit) (fi : S → R (List D)) (c : S → R Bool) (fi1 : S → R (List D)) (t1 : D → S → R Unit) (c1 : S → R Bool) (f : S → R W) : S → R W := fun s => (fi s).bind fun ds s1 =>
  if noOwn vs s1 = true then (match lc2D vs vs1 t c fi1 t1 c1 f ds (clr vs s1) with
    | .ok xs s2 => if xs.length ≤ lim then .ok (.d (.lst xs)) (rst vs s1 s2) else .st
    | _ => .st) else .st
theorem clr_empty {vs : List Nat} {s : S} : ∀ i ∈ vs, ∀ x, (clr vs s)[i]? = some x → x = .no := fun i hi x hx => by
  rw [clr_get, if_pos hi] at hx
  cases e : s[i]? with
  | none => rw [e] at hx; cases hx
  | some y => rw [e] at hx; cases hx; rfl
section
variable {X : Cx} {Z : Zt} {Γ : Gm} {t t1 : D → S → R Unit} {ks ks1 : List Nat} {fi fi1 : S → R (List D)} {c c1 : S → R Bool} {f : S → R W} {vs vs1 : List Nat}
abbrev tIb (Z : Zt) (Γ : Gm) (f : S → R (List D)) : TI := fun σ H Q => ∃ pa : Addr × List V, tI Z (Γ.blk pa.1 pa.2) f σ H Q
theorem wipe_sub {σ : L2.St} (h : ∀ i ∈ vs1, i ∈ vs) : wipe (wipe σ vs1) vs = wipe σ vs := wipe_eq (wipe_length σ vs1) fun j hj => by rw [wipe_get, if_neg fun q => hj (h j q)]
theorem lc2_D (hks : ∀ k ∈ ks, k ∈ vs) (hks1 : ∀ k ∈ ks1, k ∈ vs1) (hvs : ∀ i ∈ vs1, i ∈ vs) (h0 : (vs.all fun i => (Γ.bor i).isNone) = true) {σ : L2.St} {H : Hp} {Q : VK} (h : tE Z Γ (eLc2D vs vs1 t fi c fi1 t1 c1 f) σ H Q) :
    tLc2 (tI Z Γ fi) (tGb Z Γ ks t) (tTb Z Γ c) (tIb Z Γ fi1) (tGb Z Γ ks1 t1) (tTb Z Γ c1) (tEb Z Γ f) vs vs1 σ H Q := by
  obtain ⟨s, Lv, R0, po⟩ := h
  have h01 : (vs1.all fun i => (Γ.bor i).isNone) = true := List.all_eq_true.mpr fun i hi => List.all_eq_true.mp h0 i (hvs i hi)
  unfold eLc2D at po
  refine ⟨s, Lv, R0, po.bind.mono fun J H1 ⟨ds, s1, Lv1, _, R1, F1, itr, po1⟩ => ?_⟩
  by_cases hn : noOwn vs s1 = true
  · rw [if_pos hn] at po1
    cases hr : lc2D vs vs1 t c fi1 t1 c1 f ds (clr vs s1) with
    | st => rw [hr] at po1; exact po1.elim
    | er a b d e => rw [hr] at po1; exact po1.elim
    | ok xs s2 =>
      rw [hr] at po1
      simp only at po1
      by_cases hlim : xs.length ≤ lim
      case neg => rw [if_neg hlim] at po1; exact po1.elim
      rw [if_pos hlim] at po1
      intro p np
      have R2 := R1.toBlk np
      have Rb : Rl Z (Γ.blk p []) (clr vs s1) Lv1 (wipe σ vs) (upd H1 p (.lst [])) := R2.clr hn h0
      have npin : ∀ o, ¬ Γ.pin p o := fun o h => by
        obtain ⟨_, _, _, e⟩ := R1.pn p o h
        rw [np] at e; cases e
      have hX0 : ¬ Γ.X0 p := fun h => R1.x0 p h np
      have hH0 : Γ.H0 p = none := by
        cases q : Γ.H0 p with
        | none => rfl
        | some o => exact absurd np (R1.st0 p (by rw [q]; simp))
      have F12 : Fw Z (Γ.X Lv1) H1 ((Γ.blk p []).X Lv1) (upd H1 p (.lst [])) := by
        refine ⟨fun a o h _ _ => same_new np a o h, fun a ps h => ⟨ps, same_new np a _ h⟩, fun a h => ?_, fun h => h.ext (same_new np)⟩
        rcases h with (h | h) | h
        · exact .inl (.inl h)
        · rw [List.mem_singleton.mp h]; exact .inr np
        · exact .inl (.inr h)
      refine ⟨fun i m H' => m = ds.length - i ∧ i ≤ ds.length ∧ ∃ s' Lv' acc pre xs', Rl Z (Γ.blk p acc) s' Lv' (wipe σ vs) H' ∧ Fw Z (Γ.X Lv1) H1 ((Γ.blk p acc).X Lv') H' ∧ RepL Z ((Γ.blk p acc).X Lv') H' pre acc ∧
        lc2D vs vs1 t c fi1 t1 c1 f (ds.drop i) s' = .ok xs' s2 ∧ pre ++ xs' = xs ∧ (∀ i ∈ vs, ∀ x, s'[i]? = some x → x = .no) ∧ s'.length = s1.length, ⟨ds.length, by simp, Nat.zero_le _, clr vs s1, Lv1, [], [], xs, Rb, F12, RepL.nil, hr, rfl, clr_empty, clr_len _ _⟩, ?_⟩
      rintro i m H' ⟨rfl, hi, s', Lv', acc, pre, xs', R', F', rp, hlc, hpre, hcl, hlen⟩
      by_cases hlt : i < ds.length
      · have hd : ds[i]? = some ds[i] := List.getElem?_eq_getElem hlt
        rw [List.drop_eq_getElem_cons hlt] at hlc
        simp only [lc2D] at hlc
        refine .inr ⟨itr.go _ H' F' (R'.alv (fun _ _ _ h => .inl h) Gm.NT.blk) i hlt, _, fun H2 p' => ⟨ds.length - (i + 1), by omega, p'⟩, fun x H3 y => ?_⟩
        obtain ⟨sm, rx⟩ := itr.yld _ H' F' (R'.alv (fun _ _ _ h => .inl h) Gm.NT.blk) i _ hd x H3 y
        refine ⟨(p, acc), s', Lv', ds[i], R'.same sm, rx, ?_⟩
        cases et : t ds[i] s' with
        | st => rw [et] at hlc; cases hlc
        | er _ _ _ _ => rw [et] at hlc; cases hlc
        | ok u sa =>
          rw [et] at hlc
          simp only at hlc
          intro σ2 H4 Lv4 R4 F4 ⟨hl2, hk2⟩
          have hw : wipe σ2 vs = wipe σ vs := by
            rw [← wipe_wipe (σ := σ)]
            exact wipe_eq hl2 fun j hj => hk2 j fun q => hj (hks j q)
          refine ⟨hw, (p, acc), sa, Lv4, R4, ?_⟩
          cases ec : c sa with
          | st => rw [ec] at hlc; cases hlc
          | er _ _ _ _ => rw [ec] at hlc; cases hlc
          | ok b sb =>
            rw [ec] at hlc
            simp only [PD.R.bind_ok] at hlc
            rintro b' H5 Lv5 R5 F5 rfl
            have F05 : Fw Z ((Γ.blk p acc).X Lv') H' ((Γ.blk p acc).X Lv5) H5 := (Fw.same sm).trans (F4.trans F5)
            cases b with
            | false =>
              rw [if_neg Bool.false_ne_true] at hlc ⊢
              by_cases hno : noOwn vs sb = true
              case neg => rw [if_neg hno] at hlc; cases hlc
              rw [if_pos hno] at hlc
              have R6 : Rl Z (Γ.blk p acc) (clr vs sb) Lv5 (wipe σ vs) H5 := by
                rw [← hw]
                exact R5.clr hno h0
              exact ⟨rfl, hlt, clr vs sb, Lv5, acc, pre, xs', R6, F'.trans F05, rp.mono F05, hlc, hpre, clr_empty, by rw [clr_len, R5.len, hl2, wipe_length]; exact R1.len.symm⟩
            | true =>
              rw [if_pos rfl] at hlc ⊢
              cases e1 : fi1 sb with
              | st => rw [e1] at hlc; cases hlc
              | er _ _ _ _ => rw [e1] at hlc; cases hlc
              | ok ds1 sc =>
                rw [e1] at hlc
                simp only [PD.R.bind_ok] at hlc
                by_cases hn1 : noOwn vs1 sc = true
                case neg => rw [if_neg hn1] at hlc; cases hlc
                rw [if_pos hn1] at hlc
                cases e2 : lcD vs1 t1 c1 f ds1 (clr vs1 sc) with
                | st => rw [e2] at hlc; cases hlc
                | er _ _ _ _ => rw [e2] at hlc; cases hlc
                | ok zs sd =>
                  rw [e2] at hlc
                  simp only at hlc
                  by_cases hno : noOwn vs sd = true
                  case neg => rw [if_neg hno] at hlc; cases hlc
                  rw [if_pos hno] at hlc
                  cases e3 : lc2D vs vs1 t c fi1 t1 c1 f (ds.drop (i + 1)) (clr vs sd) with
                  | st => rw [e3] at hlc; cases hlc
                  | er _ _ _ _ => rw [e3] at hlc; cases hlc
                  | ok ys se =>
                    rw [e3] at hlc
                    simp only [PD.R.bind_ok] at hlc
                    cases hlc
                    refine ⟨(p, acc), sb, Lv5, R5, ?_⟩
                    rw [e1]
                    intro J1 H6 Lv6 R6 F6 itr1
                    have F06 := F05.trans F6
                    have lsc : sc.length = s1.length := by rw [R6.len, hl2, wipe_length]; exact R1.len.symm
                    -- the inner turns
                    refine ⟨fun j k H' => k = ds1.length - j ∧ j ≤ ds1.length ∧ ∃ s' Lv' acc pre' zs', Rl Z (Γ.blk p acc) s' Lv' (wipe σ2 vs1) H' ∧ Fw Z (Γ.X Lv1) H1 ((Γ.blk p acc).X Lv') H' ∧ Fw Z ((Γ.blk p acc).X Lv6) H6 ((Γ.blk p acc).X Lv') H' ∧ RepL Z ((Γ.blk p acc).X Lv') H' pre' acc ∧
                      lcD vs1 t1 c1 f (ds1.drop j) s' = .ok zs' sd ∧ pre' ++ (zs' ++ ys) = xs ∧ s'.length = s1.length, ⟨ds1.length, by simp, Nat.zero_le _, clr vs1 sc, Lv6, acc, pre, zs, R6.clr hn1 h01, F'.trans F06, Fw.refl, rp.mono F06, e2, hpre, by rw [clr_len, lsc]⟩, ?_⟩
                    rintro j k H' ⟨rfl, hj, s7, Lv7, acc7, pre7, zs7, R7, F7, G7, rp7, hlc7, hpre7, hlen7⟩
                    by_cases hlt1 : j < ds1.length
                    · have hd1 : ds1[j]? = some ds1[j] := List.getElem?_eq_getElem hlt1
                      rw [List.drop_eq_getElem_cons hlt1] at hlc7
                      simp only [lcD] at hlc7
                      refine .inr ⟨itr1.go _ H' G7 (R7.alv (fun _ _ _ h => h.elim .inl fun q => nomatch q.2) Gm.NT.blk') j hlt1, _, fun H2 p' => ⟨ds1.length - (j + 1), by omega, p'⟩, fun x1 H8 y1 => ?_⟩
                      obtain ⟨sm1, rx1⟩ := itr1.yld _ H' G7 (R7.alv (fun _ _ _ h => h.elim .inl fun q => nomatch q.2) Gm.NT.blk') j _ hd1 x1 H8 y1
                      refine ⟨(p, acc7), s7, Lv7, ds1[j], R7.same sm1, rx1, ?_⟩
                      cases et1 : t1 ds1[j] s7 with
                      | st => rw [et1] at hlc7; cases hlc7
                      | er _ _ _ _ => rw [et1] at hlc7; cases hlc7
                      | ok u sf =>
                        rw [et1] at hlc7
                        simp only at hlc7
                        intro σ3 H9 Lv9 R9 F9 ⟨hl3, hk3⟩
                        have hw1 : wipe σ3 vs1 = wipe σ2 vs1 := by
                          rw [← wipe_wipe (σ := σ2)]
                          exact wipe_eq hl3 fun j hj => hk3 j fun q => hj (hks1 j q)
                        refine ⟨hw1, (p, acc7), sf, Lv9, R9, ?_⟩
                        cases ec1 : c1 sf with
                        | st => rw [ec1] at hlc7; cases hlc7
                        | er _ _ _ _ => rw [ec1] at hlc7; cases hlc7
                        | ok b sg =>
                          rw [ec1] at hlc7
                          simp only [PD.R.bind_ok] at hlc7
                          rintro b' H10 Lv10 R10 F10 rfl
                          have G10 : Fw Z ((Γ.blk p acc7).X Lv7) H' ((Γ.blk p acc7).X Lv10) H10 := (Fw.same sm1).trans (F9.trans F10)
                          have ln : ∀ {s' : S}, s'.length = sg.length → s'.length = s1.length := fun e => by rw [e, R10.len, hl3, wipe_length, hl2, wipe_length]; exact R1.len.symm
                          cases b with
                          | false =>
                            rw [if_neg Bool.false_ne_true] at hlc7 ⊢
                            by_cases hno1 : noOwn vs1 sg = true
                            case neg => rw [if_neg hno1] at hlc7; cases hlc7
                            rw [if_pos hno1] at hlc7
                            have R11 : Rl Z (Γ.blk p acc7) (clr vs1 sg) Lv10 (wipe σ2 vs1) H10 := by
                              rw [← hw1]
                              exact R10.clr hno1 h01
                            exact ⟨rfl, hlt1, clr vs1 sg, Lv10, acc7, pre7, zs7, R11, F7.trans G10, G7.trans G10, rp7.mono G10, hlc7, hpre7, ln (clr_len _ _)⟩
                          | true =>
                            rw [if_pos rfl] at hlc7 ⊢
                            refine ⟨(p, acc7), sg, Lv10, R10, ?_⟩
                            cases ef : f sg with
                            | st => rw [ef] at hlc7; cases hlc7
                            | er _ _ _ _ => rw [ef] at hlc7; cases hlc7
                            | ok w sh =>
                              rw [ef] at hlc7
                              simp only [PD.R.bind_ok] at hlc7
                              intro yv H12 Lv12 R12 F12' ry
                              have G12 := G10.trans F12'
                              cases ew : fzW w with
                              | none => rw [ew] at hlc7; cases hlc7
                              | some z =>
                                rw [ew] at hlc7
                                simp only at hlc7
                                by_cases hno1 : noOwn vs1 sh = true
                                case neg => rw [if_neg hno1] at hlc7; cases hlc7
                                rw [if_pos hno1] at hlc7
                                obtain ⟨_, _, _, pD⟩ := R12.pn p _ (.inr ⟨rfl, rfl⟩)
                                cases er : lcD vs1 t1 c1 f (List.drop (j + 1) ds1) (clr vs1 sh) with
                                | st => rw [er] at hlc7; cases hlc7
                                | er _ _ _ _ => rw [er] at hlc7; cases hlc7
                                | ok zs'' s3 =>
                                  rw [er] at hlc7
                                  simp only [PD.R.bind_ok] at hlc7
                                  cases hlc7
                                  have hacc : acc7.length < lim := by
                                    have e := congrArg List.length hpre7
                                    simp only [List.length_append, List.length_cons] at e
                                    have := rp7.length
                                    omega
                                  refine ⟨acc7, pD, lim_lt hacc, ?_⟩
                                  have tb6 : LamX.Tabs Z.T (upd H12 p (.lst (acc7 ++ [yv]))) := fun q hq => tabs_upd pD (fun ps z => by cases z) lst_ncode (R12.tb q hq)
                                  have R13 : Rl Z (Γ.blk p acc7) (clr vs1 sh) Lv12 (wipe σ2 vs1) H12 := by
                                    rw [← hw1]
                                    exact R12.clr hno1 h01
                                  have R14 := R13.grow (acc' := acc7 ++ [yv]) npin hH0 tb6
                                  have F14 : Fw Z ((Γ.blk p acc7).X Lv12) H12 ((Γ.blk p (acc7 ++ [yv])).X Lv12) (upd H12 p (.lst (acc7 ++ [yv]))) := by
                                    refine ⟨fun a o h n _ => by rw [upd_ne fun z => n (by rw [z]; exact .inl (.inr (by simp)))]; exact h, fun a ps h => ⟨ps, by rw [upd_ne fun z => by rw [z, pD] at h; cases h]; exact h⟩, fun a h => .inl h, fun _ => tb6⟩
                                  refine ⟨rfl, hlt1, clr vs1 sh, Lv12, acc7 ++ [yv], pre7 ++ [z], zs'', R14, (F7.trans G12).trans F14, (G7.trans G12).trans F14, ((rp7.mono G12).mono F14).app (RepL.one ((fz_ok ry ew).mono F14)), er, by rw [← hpre7]; simp, ?_⟩
                                  rw [clr_len, R12.len, hl3, wipe_length, hl2, wipe_length]
                                  exact R1.len.symm
                    · have e : j = ds1.length := by omega
                      subst e
                      rw [List.drop_length] at hlc7
                      simp only [lcD] at hlc7
                      cases hlc7
                      refine .inl ⟨itr1.stop _ H' G7 (R7.alv (fun _ _ _ h => h.elim .inl fun q => nomatch q.2) Gm.NT.blk'), rfl, hlt, clr vs sd, Lv7, acc7, pre7, ys, ?_, F7, rp7, e3, by rw [List.nil_append] at hpre7; exact hpre7, clr_empty, by rw [clr_len, hlen7]⟩
                      have q := R7.clr hno h0
                      rw [wipe_sub hvs, hw] at q
                      exact q
      · have e : i = ds.length := by omega
        subst e
        rw [List.drop_length] at hlc
        simp only [lc2D] at hlc
        cases hlc
        rw [List.append_nil] at hpre
        subst hpre
        obtain ⟨R9, F9⟩ := R1.rst R' F' hn hcl hlen
        refine .inl ⟨itr.stop _ H' F' (R'.alv (fun _ _ _ h => .inl h) Gm.NT.blk), po1 _ H' Lv' R9 F9 ?_⟩
        obtain ⟨q1, q2, q3, q4⟩ := R'.pn p _ (.inr ⟨rfl, rfl⟩)
        have nx : ¬ Ext (.lst acc) := fun ⟨_, z⟩ => by cases z
        have q1 := q1.resolve_right nx
        have q2 := q2.resolve_right nx
        show Rep Z (Γ.X Lv') H' (.lst pre) (.ref p)
        simp only [Rep]
        refine ⟨p, acc, rfl, fun h => ?_, q4, rp.mono (Fw.refl.less fun a h => ?_)⟩
        · rcases h with h | ⟨j, h⟩
          · exact hX0 h
          · rcases R'.lvb j p h with z | z
            · exact q2 z.2
            · exact z.2 q1
        · rcases h with h | h
          · exact .inl (.inl h)
          · exact .inr h
  · rw [if_neg hn] at po1; exact po1.elim
end
section
variable {X : Cx} {Z : Zt} {Γ : Gm} {elt tg iter tg1 iter1 : Expr} {ifs ifs1 : List Expr} {scope : Scope} {own : List (Str × Nat)} {vs1 : List Nat} {t t1 : D → S → R Unit} {ks ks1 : List Nat} {fi fi1 : S → R (List D)} {c c1 : S → R Bool} {f : S → R W} {pos spos py : Pos} {y : Str}
theorem pi_ex {α : Type} {e : Expr} {u : α → TI} (h : ∀ a, PI X tg e (u a)) : PI X tg e fun σ H Q => ∃ a, u a σ H Q := ⟨fun pins s σ H Q I ⟨a, q⟩ => (h a).run pins s σ H Q I q⟩
theorem de_lc2 (hc : X.calm = true) (hN : X.N.Nodup) (hi : PI X tg iter (tI Z Γ fi)) (ok : BlkOk X.N X.env.scope scope own) (hks : ∀ k ∈ ks, k ∈ own.map (·.2)) (hks1 : ∀ k ∈ ks1, k ∈ vs1) (hv : ∀ i ∈ vs1, i ∈ own.map (·.2)) (h0 : ((own.map (·.2)).all fun i => (Γ.bor i).isNone) = true)
    (hg : ∀ (s : Shared) (H : Hp) (C : Addr) (cl : List (Str × Addr)) (fp : List Addr) (pa : Addr × List V), PG (X.blk s H scope (compEnvC scope cl C X.env) fp) tg (tG Z (Γ.blk pa.1 pa.2) ks t))
    (ht : ∀ (s : Shared) (H : Hp) (C : Addr) (cl : List (Str × Addr)) (fp : List Addr) (pa : Addr × List V), PTs (X.blk s H scope (compEnvC scope cl C X.env) fp) ifs (tT Z (Γ.blk pa.1 pa.2) c))
    (hi1 : ∀ (s : Shared) (H : Hp) (C : Addr) (cl : List (Str × Addr)) (fp : List Addr) (pa : Addr × List V), PI (X.blk s H scope (compEnvC scope cl C X.env) fp) tg1 iter1 (tI Z (Γ.blk pa.1 pa.2) fi1))
    (hg1 : ∀ (s : Shared) (H : Hp) (C : Addr) (cl : List (Str × Addr)) (fp : List Addr) (pa : Addr × List V), PG (X.blk s H scope (compEnvC scope cl C X.env) fp) tg1 (tG Z (Γ.blk pa.1 pa.2) ks1 t1))
    (ht1 : ∀ (s : Shared) (H : Hp) (C : Addr) (cl : List (Str × Addr)) (fp : List Addr) (pa : Addr × List V), PTs (X.blk s H scope (compEnvC scope cl C X.env) fp) ifs1 (tT Z (Γ.blk pa.1 pa.2) c1))
    (he : ∀ (s : Shared) (H : Hp) (C : Addr) (cl : List (Str × Addr)) (fp : List Addr) (pa : Addr × List V), PE (X.blk s H scope (compEnvC scope cl C X.env) fp) elt (tE Z (Γ.blk pa.1 pa.2) f))
    (hs : ∀ x, foldedSetIterable iter X.env x = pure x := by intro _; rfl) (hs1 : ∀ env x, foldedSetIterable iter1 env x = pure x := by intro _ _; rfl) : PE X (.ListComp elt [⟨tg, iter, ifs, 0⟩, ⟨tg1, iter1, ifs1, 0⟩] scope pos) (tE Z Γ (eLc2D (own.map (·.2)) vs1 t fi c fi1 t1 c1 f)) :=
  pe_imp (pe_lc2 hc hN hi ok hv (fun s H C cl fp => pg_ex (hg s H C cl fp)) (fun s H C cl fp => pts_ex (ht s H C cl fp)) (fun s H C cl fp => pi_ex (hi1 s H C cl fp)) (fun s H C cl fp => pg_ex (hg1 s H C cl fp)) (fun s H C cl fp => pts_ex (ht1 s H C cl fp)) (fun s H C cl fp => pe_ex (he s H C cl fp)) hs hs1)
    fun _ _ _ h => lc2_D hks hks1 hv h0 h
theorem ds_lc2 (i : Nat) (hc : X.calm = true) (hN : X.N.Nodup) (hy : X.N[i]? = some y) (hyl : X.env.scope.names.lookup y = some .local) (hsw : swapsWith (.ListComp elt [⟨tg, iter, ifs, 0⟩, ⟨tg1, iter1, ifs1, 0⟩] scope pos) (some (.Name y py)) spos.line X.env = pure true) (hb : Γ.bor i = none)
    (hi : PI X tg iter (tI Z Γ fi)) (ok : BlkOk X.N X.env.scope scope own) (hks : ∀ k ∈ ks, k ∈ own.map (·.2)) (hks1 : ∀ k ∈ ks1, k ∈ vs1) (hv : ∀ i ∈ vs1, i ∈ own.map (·.2)) (h0 : ((own.map (·.2)).all fun i => (Γ.bor i).isNone) = true)
    (hg : ∀ (s : Shared) (H : Hp) (C : Addr) (cl : List (Str × Addr)) (fp : List Addr) (pa : Addr × List V), PG (X.blk s H scope (compEnvC scope cl C X.env) fp) tg (tG Z (Γ.blk pa.1 pa.2) ks t))
    (ht : ∀ (s : Shared) (H : Hp) (C : Addr) (cl : List (Str × Addr)) (fp : List Addr) (pa : Addr × List V), PTs (X.blk s H scope (compEnvC scope cl C X.env) fp) ifs (tT Z (Γ.blk pa.1 pa.2) c))
    (hi1 : ∀ (s : Shared) (H : Hp) (C : Addr) (cl : List (Str × Addr)) (fp : List Addr) (pa : Addr × List V), PI (X.blk s H scope (compEnvC scope cl C X.env) fp) tg1 iter1 (tI Z (Γ.blk pa.1 pa.2) fi1))
    (hg1 : ∀ (s : Shared) (H : Hp) (C : Addr) (cl : List (Str × Addr)) (fp : List Addr) (pa : Addr × List V), PG (X.blk s H scope (compEnvC scope cl C X.env) fp) tg1 (tG Z (Γ.blk pa.1 pa.2) ks1 t1))
    (ht1 : ∀ (s : Shared) (H : Hp) (C : Addr) (cl : List (Str × Addr)) (fp : List Addr) (pa : Addr × List V), PTs (X.blk s H scope (compEnvC scope cl C X.env) fp) ifs1 (tT Z (Γ.blk pa.1 pa.2) c1))
    (he : ∀ (s : Shared) (H : Hp) (C : Addr) (cl : List (Str × Addr)) (fp : List Addr) (pa : Addr × List V), PE (X.blk s H scope (compEnvC scope cl C X.env) fp) elt (tE Z (Γ.blk pa.1 pa.2) f))
    (hs : ∀ x, foldedSetIterable iter X.env x = pure x := by intro _; rfl) (hs1 : ∀ env x, foldedSetIterable iter1 env x = pure x := by intro _ _; rfl) :
    PS X (.Assign [.Name y py] (.ListComp elt [⟨tg, iter, ifs, 0⟩, ⟨tg1, iter1, ifs1, 0⟩] scope pos) spos) (tS Z Γ (sAsg (gN i) (eLc2D (own.map (·.2)) vs1 t fi c fi1 t1 c1 f))) := by
  refine ps_imp (ps_setLc2 hc hN hy hyl hsw hi ok hv (fun s H C cl fp => pg_ex (hg s H C cl fp)) (fun s H C cl fp => pts_ex (ht s H C cl fp)) (fun s H C cl fp => pi_ex (hi1 s H C cl fp)) (fun s H C cl fp => pg_ex (hg1 s H C cl fp)) (fun s H C cl fp => pts_ex (ht1 s H C cl fp)) (fun s H C cl fp => pe_ex (he s H C cl fp)) hs hs1) fun Dn σ H h => ?_
  obtain ⟨s, Lv, R0, po⟩ := h
  refine lc2_D hks hks1 hv h0 ⟨s, Lv, R0, po.bind.mono fun v H1 ⟨w, s1, Lv1, _, R1, F1, r1, po1⟩ => ?_⟩
  cases e1 : fzW w with
  | none => rw [e1] at po1; exact po1.elim
  | some d =>
    rw [e1] at po1
    simp only [gN] at po1
    by_cases hi : i < s1.length
    · rw [if_pos hi] at po1
      simp only [tgo_ok] at po1
      obtain ⟨R2, F2⟩ := R1.setD hi hb (fz_ok r1 e1)
      exact po1.nx R2 F2
    · rw [if_neg hi] at po1; exact po1.elim
end
end PD

set_option linter.all false
set_option maxRecDepth 100000
set_option maxHeartbeats 1000000
/-! PD26: max of a tuple, max(.., default=d). -/
namespace PD
open PySem PySem.Spec PyProof.Rows L2

section
variable {prog : Program} {w : World} {A : Around} {R : Result → Shared → Prop} {it : Addr} {fp wr : List Addr} {n : Nat} {P : Nat → Value → Prop} {St : Nat → Heap → Prop} {kws : List (Str × Value)}
theorem mx_turns (W : Walks prog w A.in1 it fp wr n P St) (bt : Nat → Nat → Bool) (cmp : CmpOf prog w A.in1 .Gt P bt) (B : Addr) (nB : B ∉ fp) :
    ∀ (k j : Nat) (s : Shared) (x : Value) (c : Nat), n - (j + 1) = k → j + 1 ≤ n → St (j + 1) s.heap → P (argBest bt j) x → s.heap.get? B = some { cls := .type "list", dict := none, data := .seq #[x, x] c, slots := #[] } →
    (∀ v h' tk, P (argBest bt (n - 1)) v → (∀ b o, b ∉ wr → b ≠ B → s.heap.get? b = some o → h'.get? b = some o) → R (.ok (.ret v)) { s with heap := h', toks := tk }) →
    codeAny (model prog w) A (.builtin "max.loop" ⟨[.ref it, .none, .ref B], kws⟩) R s := by
  have wB : B ∉ wr := fun h => nB (W.sub _ h)
  have nm : (toString "max" ++ toString ".loop" : String) = "max.loop" := by decide
  intro k
  induction k with
  | zero =>
    intro j s x c hk hj st px hB go
    have last : j + 1 = n := by omega
    refine codeAny_builtin F.entry_max_loop ?_
    rw [Around.under_plainId F.plain_max_loop _]
    show wpAny _ A.in1 (seqItems? (.ref B) >>= _) _ _ s
    refine wpAny_bind (wpAny_seqItems hB rfl ?_)
    show wpAny _ A.in1 (tryCatch (pyNext (.ref it)) _ >>= _) _ _ s
    refine wpAny_bind (wpAny_tryCatch (W.done s _ _ (last ▸ st) fun h' tk kp => ?_))
    have hB' := kp B _ wB hB
    show wpAny _ A.in1 (updateSeq B (fun _ => #[]) >>= _) _ _ _
    refine wpAny_bind ?_
    refine wpAny_updateSeq hB' rfl (wpAny_bind (wpAny_letGo (wpAny_pure ?_)))
    exact go x _ tk (by rw [← last]; exact px) fun b o h1 h2 e => (Heap.get?_update_other _ _ (Ne.symm h2)).trans (kp b o h1 e)
  | succ k ih =>
    intro j s x c hk hj st px hB go
    have more : j + 1 < n := by omega
    refine codeAny_builtin F.entry_max_loop ?_
    rw [Around.under_plainId F.plain_max_loop _]
    show wpAny _ A.in1 (seqItems? (.ref B) >>= _) _ _ s
    refine wpAny_bind (wpAny_seqItems hB rfl ?_)
    show wpAny _ A.in1 (tryCatch (pyNext (.ref it)) _ >>= _) _ _ s
    refine wpAny_bind (wpAny_tryCatch (W.item (j + 1) s _ _ more st fun v h' tk pv st' kp => ?_))
    have hB' := kp B _ wB hB
    show wpAny _ A.in1 (tryCatch (holding [v, v] (richCompare .Gt v x >>= _)) _ >>= _) _ _ _
    refine wpAny_bind (wpAny_tryCatch (wpAny_holding (wpAny_bind (cmp (j + 1) (argBest bt j) v x _ _ _ pv px ?_))))
    refine wpAny_bind (wpAny_holding (wpAny_truthy_bool ?_))
    refine wpAny_bind (wpAny_letGo (wpAny_pure ?_))
    cases hb : bt (j + 1) (argBest bt j) with
    | true =>
      simp only [if_true]
      refine wpAny_bind ?_
      refine wpAny_updateSeq hB' rfl (wpAny_bind (wpAny_letGo ?_))
      rw [nm]
      refine wpAny_pure ⟨plainId_quiet F.plain_max_loop _, ih (j + 1) _ v _ (by omega) more (W.frame _ _ _ st' fun b h1 o e => ?_) (by simp only [argBest, hb, if_true]; exact pv) (Heap.get?_update_self _ hB' rfl) fun v' g tk' pv' kp' => ?_⟩
      · exact (Heap.get?_update_other _ _ (fun h : B = b => nB (by rw [h]; exact h1))).trans e
      · exact go v' g tk' pv' fun b o h1 h2 e => kp' b o h1 h2 ((Heap.get?_update_other _ _ (Ne.symm h2)).trans (kp b o h1 e))
    | false =>
      simp only [Bool.false_eq_true, if_false]
      refine wpAny_bind (wpAny_letGo ?_)
      rw [nm]
      refine wpAny_pure ⟨plainId_quiet F.plain_max_loop _, ih (j + 1) _ x c (by omega) more st' (by simp only [argBest, hb, Bool.false_eq_true, if_false]; exact px) hB' fun v' g tk' pv' kp' => ?_⟩
      exact go v' g tk' pv' fun b o h1 h2 e => kp' b o h1 h2 (kp b o h1 e)
theorem mx_first (W : Walks prog w A.in1 it fp wr n P St) (bt : Nat → Nat → Bool) (cmp : CmpOf prog w A.in1 .Gt P bt) (B : Addr) (nB : B ∉ fp) {s : Shared} {c : Nat} (st : St 0 s.heap)
    (hB : s.heap.get? B = some { cls := .type "list", dict := none, data := .seq #[] c, slots := #[] })
    (go : 0 < n → ∀ v h' tk, P (argBest bt (n - 1)) v → (∀ b o, b ∉ wr → b ≠ B → s.heap.get? b = some o → h'.get? b = some o) → R (.ok (.ret v)) { s with heap := h', toks := tk })
    (none_ : n = 0 → ∃ k d r, kws = (k, d) :: r ∧ ∀ h' tk, (∀ b o, b ∉ wr → s.heap.get? b = some o → h'.get? b = some o) → R (.ok (.ret d)) { s with heap := h', toks := tk }) :
    codeAny (model prog w) A (.builtin "max.loop" ⟨[.ref it, .none, .ref B], kws⟩) R s := by
  have wB : B ∉ wr := fun h => nB (W.sub _ h)
  have nm : (toString "max" ++ toString ".loop" : String) = "max.loop" := by decide
  refine codeAny_builtin F.entry_max_loop ?_
  rw [Around.under_plainId F.plain_max_loop _]
  show wpAny _ A.in1 (seqItems? (.ref B) >>= _) _ _ s
  refine wpAny_bind (wpAny_seqItems hB rfl ?_)
  show wpAny _ A.in1 (tryCatch (pyNext (.ref it)) _ >>= _) _ _ s
  by_cases hn : n = 0
  · obtain ⟨k, d, r, rfl, fin⟩ := none_ hn
    refine wpAny_bind (wpAny_tryCatch (W.done s _ _ (hn ▸ st) fun h' tk kp => ?_))
    exact wpAny_bind (wpAny_rule (wpAny_pure (fin h' tk kp)))
  · have more : 0 < n := Nat.pos_of_ne_zero hn
    refine wpAny_bind (wpAny_tryCatch (W.item 0 s _ _ more st fun v h' tk pv st' kp => ?_))
    have hB' := kp B _ wB hB
    show wpAny _ A.in1 (updateSeq B (fun _ => #[v, v]) >>= _) _ _ _
    refine wpAny_bind ?_
    refine wpAny_updateSeq hB' rfl ?_
    rw [nm]
    refine wpAny_pure ⟨plainId_quiet F.plain_max_loop _, mx_turns W bt cmp B nB _ 0 _ v _ rfl more (W.frame _ _ _ st' fun b h1 o e => ?_) pv (Heap.get?_update_self _ hB' rfl) fun v' g tk' pv' kp' => ?_⟩
    · exact (Heap.get?_update_other _ _ (fun h : B = b => nB (by rw [h]; exact h1))).trans e
    · exact go more v' g tk' pv' fun b o h1 h2 e => kp' b o h1 h2 ((Heap.get?_update_other _ _ (Ne.symm h2)).trans (kp b o h1 e))
end
section
variable {prog : Program} {w : World} {A : Around} {E : Value → Shared → Prop} {s : Shared}
theorem args_max_d (a d : Value) : argsOk "max" ⟨[a], [(Str.ofString "default", d)]⟩ := by unfold argsOk; kernel_rfl
theorem args_max_o (a : Value) (o : Option Value) : argsOk "max" ⟨[a], o.toList.map fun d => (Str.ofString "default", d)⟩ := by
  cases o with
  | none => exact F.args_max1 a
  | some d => exact args_max_d a d
/-- max of a tuple of ints, a default given or not -/
theorem mx_tup {t : Addr} {vs : List Value} {ns : List Int} {o : Option Value} {Q : Value → Shared → Prop} (hh : A.handled = none) (ht : s.heap.IsTuple t vs.toArray) (hi : IntsAre vs ns) (hne : o = none → 0 < ns.length)
    (go : 0 < ns.length → ∀ M tk h' k, M ∈ ns → (∀ a ∈ ns, a ≤ M) → (∀ b ob, s.heap.get? b = some ob → h'.get? b = some ob) → Q (.int M k) { s with heap := h', toks := tk })
    (dflt : ns.length = 0 → ∀ d tk h', o = some d → (∀ b ob, s.heap.get? b = some ob → h'.get? b = some ob) → Q d { s with heap := h', toks := tk }) :
    wpAny (model prog w) A (call (.builtin "max") [.ref t] (o.toList.map fun d => (Str.ofString "default", d))) Q E s := by
  have nm : (toString "max" ++ toString ".loop" : String) = "max.loop" := by decide
  have tlt : t < s.heap.objs.size := by obtain ⟨_, e, _⟩ := ht; exact Heap.lt_size e
  have lv : vs.length = ns.length := hi.length
  generalize hkw : (o.toList.map fun d => (Str.ofString "default", d)) = kws
  have hb : Builtin.Builtins.bindParams "max" ["key", "default"] 0 ⟨[], kws⟩ = pure [none, o] := by
    rw [← hkw]
    cases o <;> rfl
  have body : wpAny (model prog w) A.in1 (Builtin.«max» ⟨[.ref t], kws⟩) (fun fin s' => match fin with
      | .done f => (match (Except.ok f : Result) with | .ok (.ret v) => Q v s' | .ok _ => False | .error e => E e s')
      | .again c' => c'.quiet = true ∧ codeAny (model prog w) A c' (fun r s' => match r with | .ok (.ret v) => Q v s' | .ok _ => False | .error e => E e s') s') E s := by
    show wpAny _ A.in1 (Builtin.Builtins.bindParams "max" ["key", "default"] 0 ⟨[], kws⟩ >>= _) _ _ s
    refine wpAny_bind (wpAny_of_eq hb ?_)
    refine wpAny_bind (wpAny_pure ?_)
    refine wpAny_bind (wpAny_pyIter_tuple ht ?_)
    refine wpAny_bind (wpAny_newObj_type ?_)
    rw [nm]
    generalize hs1 : s.heap.push { cls := .type "tuple_iterator", data := .fields #[.ref t, .int 0 0] } = h1
    have g1 : h1.get? s.heap.objs.size = some { cls := .type "tuple_iterator", data := .fields #[.ref t, .int 0 0] } := by rw [← hs1]; exact Heap.get?_push_size _ rfl
    have k1 : ∀ b ob, s.heap.get? b = some ob → h1.get? b = some ob := fun b ob e => by rw [← hs1]; exact Heap.get?_push_of_some _ e
    have z1 : h1.objs.size = s.heap.objs.size + 1 := by rw [← hs1, Heap.size_push]
    have key : codeAny (model prog w) A (.builtin "max.loop" ⟨[.ref s.heap.objs.size, .none, .ref h1.objs.size], kws⟩) (fun r s' => match r with | .ok (.ret v) => Q v s' | .ok _ => False | .error e => E e s') { s with heap := h1.push { cls := .type "list", data := .seq #[] } } := by
      have kk : ∀ b ob, s.heap.get? b = some ob → (h1.push { cls := .type "list", data := .seq #[] }).get? b = some ob := fun b ob e => Heap.get?_push_of_some _ (k1 b ob e)
      have fin : ∀ {h' : Heap}, (∀ b ob, b ∉ [s.heap.objs.size] → b ≠ h1.objs.size → (h1.push { cls := .type "list", data := .seq #[] }).get? b = some ob → h'.get? b = some ob) → ∀ b ob, s.heap.get? b = some ob → h'.get? b = some ob := fun kp b ob e =>
        kp b ob (by simp only [List.mem_singleton]; exact Nat.ne_of_lt (Heap.lt_size e)) (Nat.ne_of_lt (Nat.lt_of_lt_of_le (Heap.lt_size e) (by rw [z1]; exact Nat.le_succ _))) (kk b ob e)
      refine mx_first (Walks.tuple (A := A.in1) hh s.heap.objs.size t (Nat.ne_of_lt tlt) vs.toArray) (fun i j => decide (ns.getD i 0 > ns.getD j 0)) (CmpOf.ints_gt (fun i => ns.getD i 0) fun i v e => ?_) h1.objs.size (fun q => by
        have tl := tlt
        rw [z1] at q
        rcases List.mem_cons.mp q with q | q
        · exact Nat.succ_ne_self _ q
        · rw [← List.mem_singleton.mp q] at tl
          exact Nat.lt_irrefl _ (Nat.lt_of_succ_lt tl)) ⟨⟨_, Heap.get?_push_of_some _ g1, rfl, rfl⟩, ?_⟩ (Heap.get?_push_size _ rfl) (fun hn v h' tk pv kp => ?_) fun hn => ?_
      · obtain ⟨m, k, e1, e2⟩ := hi.at i v (by simpa using e)
        exact ⟨k, by rw [e1, List.getD_eq_getElem?_getD, e2]; rfl⟩
      · obtain ⟨ob, e1, e2⟩ := ht
        exact ⟨ob, kk _ _ e1, e2⟩
      · have hn' : 0 < ns.length := by simpa [lv] using hn
        obtain ⟨a1, a2⟩ := argBest_gt (fun i => ns.getD i 0) (vs.toArray.size - 1)
        obtain ⟨m, k, e1, e2⟩ := hi.at _ v (by rw [List.getElem?_toArray] at pv; exact pv)
        have em : m = ns.getD (argBest (fun i j => decide (ns.getD i 0 > ns.getD j 0)) (vs.toArray.size - 1)) 0 := by rw [List.getD_eq_getElem?_getD, e2]; rfl
        subst e1
        refine go hn' m tk h' k (List.mem_of_getElem? e2) (fun a ha => ?_) (fin kp)
        obtain ⟨j, hj⟩ := List.getElem?_of_mem ha
        have hj' : j < ns.length := (List.getElem?_eq_some_iff.mp hj).1
        have := a2 j (by simp only [List.size_toArray, lv]; omega)
        rw [em]
        rw [List.getD_eq_getElem?_getD, hj] at this
        exact this
      · have hn' : ns.length = 0 := by simpa [lv] using hn
        cases o with
        | none => exact absurd (hne rfl) (by omega)
        | some d =>
          refine ⟨_, d, [], by rw [← hkw]; rfl, fun h' tk kp => dflt hn' d tk h' rfl (fin fun b ob h1 _ e => kp b ob h1 e)⟩
    refine wpAny_pure ⟨plainId_quiet F.plain_max_loop _, ?_⟩
    rw [← hkw] at key
    exact key
  refine wpAny_call (codeAny_call_builtin F.plain_max F.entry_max ?_)
  have ha := args_max_o (.ref t) o
  rw [hkw] at ha
  simp only [checkBuiltinCall, F.kind_max]
  cases hsig : Manifest.signature? "max" with
  | none => exact wpAny_pure body
  | some sig =>
    have ha' : Bind.checkArgs "max" sig ⟨[.ref t], kws⟩ = pure () := by simpa only [argsOk, hsig] using ha
    simp only [ha']
    exact wpAny_pure body
end
end PD

set_option linter.all false
set_option maxRecDepth 100000
set_option maxHeartbeats 1000000
/-! PD27: max of tuples as rules. -/
namespace PD
open PySem PySem.Spec PyProof.Rows L2

/-- max of a list or a tuple -/
def gMaxT : List D → Option D
  | [.tup ds] => (allInt ds).bind fun ns => ns.max?.map .int
  | ds => gMaxL ds
/-- max(t, default=d), t a tuple -/
def gMaxD : List D → Option D
  | [.tup ds, .int k] => (allInt ds).bind fun ns => some (.int (ns.max?.getD k))
  | _ => none
section
variable {X : Cx} {Z : Zt} {Γ : Gm}
theorem max_of {ns : List Int} {M m : Int} (h1 : M ∈ ns) (h2 : ∀ a ∈ ns, a ≤ M) (e : ns.max? = some m) : m = M := by
  obtain ⟨m1, m2⟩ := List.max?_eq_some_iff.mp e
  exact Int.le_antisymm (h2 _ m1) (m2 _ h1)
theorem od_maxT (hc : X.calm = true) (hK : X.K = Z.K) : CallR X (.builtin "max") (rD Z gMaxT) := by
  intro pins s σ H xs us Q I r h
  obtain ⟨Y, ds, d, hx, hv, hg, q⟩ := h
  unfold gMaxT at hg
  split at hg
  · rename_i ls
    obtain ⟨v, rfl, h1⟩ := vwl1 hv rfl
    obtain ⟨a, vs, rfl, ha, rl⟩ := vw_tup h1
    cases e : allInt ls with
    | none => rw [e] at hg; cases hg
    | some ns =>
      rw [e] at hg
      simp only [Option.bind_some] at hg
      cases e2 : ns.max? with
      | none => rw [e2] at hg; cases hg
      | some m =>
        rw [e2] at hg
        cases hg
        obtain ⟨its, rv, hl, hz⟩ := I.tuple (show SqT X.K H a vs by rw [hK]; exact ha)
        rw [allInt_map rl e] at rv
        rw [Vals.ref1 r]
        refine mx_tup (o := none) (I.ok.hd hc) hl rv.ints (fun _ => ?_) (fun _ M tk h' k m1 m2 kp => ?_) fun _ d tk h' z => by cases z
        · obtain ⟨m1, _⟩ := List.max?_eq_some_iff.mp e2
          exact List.length_pos_of_mem m1
        · rw [max_of m1 m2 e2] at q
          exact ⟨.int M, H, I.kept kp, ⟨_, rfl⟩, q _ H (Same.refl H) rep_int⟩
  · exact od_maxL hc pins s σ H xs us Q I r ⟨Y, ds, d, hx, hv, hg, q⟩
theorem ok_maxD (hc : X.calm = true) (hK : X.K = Z.K) : CallRK X (.builtin "max") [Str.ofString "default"] (fun xs zs H Q => ∃ x z, xs = [x] ∧ zs = [z] ∧ rD Z gMaxD [x, z] H Q) := by
  intro pins s σ H xs zs us ws Q I rx rz h
  obtain ⟨x, z, rfl, rfl, Y, ds, d, hx, hv, hg, q⟩ := h
  obtain ⟨d1, d2, rfl, h1, h2⟩ := vw2 hv
  obtain ⟨u, rfl, ru⟩ := vals1 rx
  obtain ⟨u2, rfl, ru2⟩ := vals1 rz
  unfold gMaxD at hg
  split at hg
  · rename_i ls k0 e0
    cases e0
    obtain ⟨a, vs, rfl, ha, rl⟩ := vw_tup h1
    obtain rfl : u = Value.ref a := ru
    cases vw_int h2
    cases e : allInt ls with
    | none => rw [e] at hg; cases hg
    | some ns =>
      rw [e] at hg
      simp only [Option.bind_some, Option.some.injEq] at hg
      subst hg
      obtain ⟨its, rv, hl, hz⟩ := I.tuple (show SqT X.K H a vs by rw [hK]; exact ha)
      rw [allInt_map rl e] at rv
      refine mx_tup (o := some u2) (I.ok.hd hc) hl rv.ints (fun z => by cases z) (fun hn M tk h' k m1 m2 kp => ?_) fun hn d' tk h' e' kp => ?_
      · cases e2 : ns.max? with
        | none => rw [List.max?_eq_none_iff] at e2; rw [e2] at hn; cases hn
        | some m =>
          rw [e2, Option.getD_some, max_of m1 m2 e2] at q
          exact ⟨.int M, H, I.kept kp, ⟨_, rfl⟩, q _ H (Same.refl H) rep_int⟩
      · cases e'
        have e3 : ns = [] := List.length_eq_zero_iff.mp hn
        subst e3
        exact ⟨.int k0, H, I.kept kp, ru2, q _ H (Same.refl H) rep_int⟩
  · cases hg
variable {e e2 : Expr} {fa fb : S → R W} {pos p kp : Pos}
theorem de_maxD (hc : X.calm = true) (hK : X.K = Z.K) (hg : Gl X "max") (hm : X.mg "max" = none) (ha : PE X e (tE Z Γ fa)) (hb : PE X e2 (tE Z Γ fb))
    (he : starEach [e] X.env = (false, eval e X.env) :: starEach [] X.env := by rfl)
    (he1 : backTo pos (starEach [e] X.env) = (false, eval e X.env) :: backTo pos (starEach [] X.env) := by rfl) (hpl : (backTo pos (starEach [e] X.env)).any (·.1) = false := by rfl)
    (hall : (backToKw pos (keywordEach [⟨some "default", e2, kp⟩] X.env)).all (·.1.isSome) = true := by rfl) (hnone : (backToKw pos (keywordEach [⟨some "default", e2, kp⟩] X.env)).any (·.1.isNone) = false := by rfl) (hks : (backToKw pos (keywordEach [⟨some "default", e2, kp⟩] X.env)).filterMap (·.1) = [Str.ofString "default"] := by rfl) :
    PE X (.Call (.Name "max" p) [e] [⟨some "default", e2, kp⟩] pos) (tE Z Γ (eBin gMaxD fa fb)) := by
  refine pe_imp (pe_callBK (ok_maxD hc hK) hg hm (by decide +kernel) (pa_cons ha pa_nil he) (pk_cons hb pk_nil) (by decide) (by decide) he1 hpl hall hnone hks) fun σ H Q h => ?_
  obtain ⟨s, Lv, R0, po⟩ := h
  refine ⟨s, Lv, R0, po.bind.mono fun x H1 ⟨w, s1, Lv1, _, R1, F1, r1, po1⟩ => ⟨s1, Lv1, R1, po1.bind.mono fun z H2 ⟨u, s2, Lv2, _, R2, F2, r2, po2⟩ => ?_⟩⟩
  refine ⟨x, z, rfl, rfl, ?_⟩
  exact fin_D (ws := [w, u]) R2 ⟨x, [z], rfl, r1.mono F2, z, [], rfl, r2, rfl⟩ po2
end
end PD

set_option linter.all false
set_option maxRecDepth 100000
set_option maxHeartbeats 1000000
/-! PD28: a def of the module handed to a def that calls it. -/
namespace PD
open PySem PySem.Spec PyProof.Rows L2 LamX NdefX

def noPin : Addr → HO → Prop := fun _ _ => False
section
variable {X : Cx} {Z : Zt} {Y : Addr → Prop} {H0 : Hp} {f : Addr} {fd : FuncData} {ps : List Str} {k j n m : Nat} {a : Str} {jm : List D → FR}
/-- the module's def in slot n -/
theorem judge_fn (F : FnOk X.prog X.w X.K X.mg X.base (L2.CX X.prog X.w) k f fd ps (spP Z m jm)) (hr : Room k X.A) (hk : PySem.W.keepIn X.K (.ref f) = true) (hb : Binds X.K fd ps []) (hN : X.N[n]? = some a) (hv : Vis X.env.scope a) (hd : (a == ("__debug__" : Str)) = false) (hcd : (a == ("__classdict__" : Str)) = false) :
    JudgeOk X Z (Gz Y H0 f n noPin) a m jm := by
  intro e es fs p1 p2 ha he hpl
  have px : PX X (Gz Y H0 f n noPin) := px_never fun _ _ _ _ h => h
  refine pe_imp (pe_callL F hr hN hv hk hb .nil px ha hd hcd he hpl) fun σ H Q h => ?_
  have q := call_D (Γ := Gz Y H0 f n noPin) (fun _ _ _ _ _ h => False.elim h) (fz_D h)
  obtain ⟨s, Lv, R0, _⟩ := h
  exact ⟨R0.bor n _ (by show (if n = n then _ else _) = _; rw [if_pos rfl]), q⟩
end
def isFn (x : Str) : List W → Bool
  | [.d (.fn y)] => decide (y = x)
  | _ => false
def rCallG (n : Nat) (x : Str) (m : (List D → FR) → List D → FR) (jm : List D → FR) (f : S → R (List W)) : S → R Rv := fun s => (f s).bind fun ws s1 => match fzL (ws.take n) with
  | some ds => if ds.length = n ∧ isFn x (ws.drop n) = true then (match m jm ds with
    | .ok r => .ok r s1
    | _ => .st) else .st
  | none => .st
section
variable {X : Cx} {Z : Zt} {Γ : Gm} {pos p : Pos}
theorem de_fn {x : Str} {f : Addr} (hmg : X.mg = Z.mg) (hg : Gl X x) (hm : X.mg x = some (.ref f)) (hd : (x == ("__debug__" : Str)) = false := by decide) : PE X (.Name x pos) (tE Z Γ (eC (.fn x))) :=
  de_g (v := .ref f) hg hm rfl (fun Y H => by simp only [Rep]; exact ⟨f, rfl, by rw [← hmg]; exact hm⟩) hd
variable {gx jn jx : Str} {st : Stmt} {g f : Addr} {fd fdj : FuncData} {Ng psg psj : List Str} {e : Expr} {es : List Expr} {k n m : Nat} {bf : (List D → FR) → S → SR} {jm : List D → FR} {fs : S → R (List W)}
/-- g(.., h), h the name of a def, which g calls -/
theorem dr_callG (F : Fun X.K gx gx st g fd) (Sc : FnScope Ng psg (defScope st)) (hps : psg.length = n + 1) (hNg : n < Ng.length) (hbd : Binds X.K fd psg []) (hr : Room (k + 2) X.A) (hg : Gl X gx) (hm : X.mg gx = some (.ref g)) (hmg : X.mg = Z.mg)
    (hmj : X.mg jx = some (.ref f)) (J : FnOk X.prog X.w X.K X.mg X.base (L2.CX X.prog X.w) k f fdj psj (spP Z m jm)) (hkj : PySem.W.keepIn X.K (.ref f) = true) (hbj : Binds X.K fdj psj [])
    (bd : ∀ (cdv : Value) (A : Around) (outer : List Env) (s : Shared) (H : Hp) (Y : Addr → Prop) (jm : List D → FR), Room (k + 1) (A.deeper (envOfC gx (defScope st) s.heap.objs.size g cdv)) →
      JudgeOk (cxOf (L2.CX X.prog X.w) X.prog X.w X.K X.mg X.base Ng gx (defScope st) g cdv A outer s H NoE) Z (Gz Y H f n noPin) jn m jm →
      PSs (cxOf (L2.CX X.prog X.w) X.prog X.w X.K X.mg X.base Ng gx (defScope st) g cdv A outer s H NoE) (defBody st) (tS Z (Gz Y H f n noPin) (bf jm)))
    (hNj : Ng[n]? = some jn) (hvj : Vis (defScope st) jn) (ha : PA X (e :: es) (tA Z Γ fs)) (hjd : (jn == ("__debug__" : Str)) = false := by decide) (hjc : (jn == ("__classdict__" : Str)) = false := by decide)
    (hdb : (gx == ("__debug__" : Str)) = false := by decide) (he : starEach (e :: es) X.env = (false, eval e X.env) :: starEach es X.env := by rfl) (hpl : (backTo pos (starEach es X.env)).any (·.1) = false := by rfl) :
    PE X (.Call (.Name gx p) (e :: es) [] pos) (tR Z Γ (rCallG n jx (fun jm => runP Ng.length (bf jm)) jm fs)) := by
  refine ⟨fun pins s σ H Q I h => ?_⟩
  refine wpAny_Call_Name_kw (ld_glob I hg hm ?_ hdb)
  have ha2 : tA Z Γ fs σ H fun vs H1 => ∃ s1 Lv1 ds, Rl Z Γ s1 Lv1 σ H1 ∧ vs = vs.take n ++ [.ref f] ∧ RepL Z (Γ.X Lv1) H1 ds (vs.take n) ∧ ds.length = n ∧ goP Z (Γ.X Lv1) H1 Q NoE (runP Ng.length (bf jm) ds) := by
    obtain ⟨s, Lv, R0, po⟩ := h
    refine ⟨s, Lv, R0, ?_⟩
    unfold rCallG at po
    cases e1 : fs s with
    | st => rw [e1] at po; exact po.elim
    | er c ns ds s1 => rw [e1] at po; exact po
    | ok ws s1 =>
      rw [e1] at po
      simp only [PD.R.bind_ok] at po
      intro vs H1 Lv1 R1 F1 r1
      cases e2 : fzL (ws.take n) with
      | none => rw [e2] at po; exact po.elim
      | some ds =>
        rw [e2] at po
        simp only at po
        by_cases hc : ds.length = n ∧ isFn jx (ws.drop n) = true
        · rw [if_pos hc] at po
          obtain ⟨q1, q2⟩ := WRepL.split (n := n) r1
          have rds := fzL_ok q1 e2
          have tl : vs.drop n = [.ref f] := by
            have h2 := hc.2
            unfold isFn at h2
            split at h2
            · rename_i y ew
              rw [ew] at q2
              obtain ⟨v, vr, e4, e5, e6⟩ := q2
              have e6 : vr = [] := e6
              have hy : y = jx := by simpa using h2
              subst hy
              have e5 : Rep Z (Γ.X Lv1) H1 (.fn y) v := e5
              simp only [Rep] at e5
              obtain ⟨a, ea, em⟩ := e5
              rw [← hmg, hmj] at em
              cases em
              rw [e4, e6, ea]
            · cases h2
          refine ⟨s1, Lv1, ds, R1, ?_, rds, hc.1, ?_⟩
          · rw [← tl]; exact (List.take_append_drop n vs).symm
          · cases e8 : runP Ng.length (bf jm) ds with
            | st => rw [e8] at po; exact po.elim
            | er c ns es => rw [e8] at po; exact po.elim
            | ok r' =>
              rw [e8] at po
              unfold goP
              intro v H' L kp nd nw rr
              have Fx : Fw Z (Γ.X Lv1) H1 ((Γ.plus L).X Lv1) H' := ⟨fun a o h _ t => kp.keep a o h t, kp.ktbl, fun a h => by
                rcases h with (h | h) | h
                · exact .inl (.inl h)
                · exact .inr (nw a h).1
                · exact .inl (.inr h), kp.tabs⟩
              refine po v H' Lv1 L (R1.kp (E := Γ.E) kp nw) (F1.trans Fx) nd (fun b hb => ⟨fun q => R1.xs q (nw b hb).1, ?_⟩) (rr.mono (Fw.refl.less fun a h => ?_) fun _ _ => rfl)
              · cases q : Γ.H0 b with
                | none => rfl
                | some o => exact absurd (nw b hb).1 (R1.st0 b (by rw [q]; simp))
              · rcases h with (h | h) | h
                · exact .inl (.inl h)
                · exact .inr h
                · exact .inl (.inr h)
        · rw [if_neg hc] at po; exact po.elim
  refine PySem.W.callWith_K (h₀ := X.base) I.ok.mod.kin F.kp (thn (ha.run pos pins s σ H _ I ha2) fun us s1 ⟨vs, H1, I1, r, q⟩ => ⟨I1.kIn, ?_⟩) he hpl
  obtain ⟨t1, Lv1, ds, R1, evs, rds, hn, po⟩ := q
  show wpAny _ _ (call (.ref g) us) _ _ _
  have lvs : vs.length = n + 1 := by
    rw [evs, List.length_append, ← rds.length, hn]; rfl
  have run : codeAny (model X.prog X.w) X.A (.call (.ref g) ⟨us, []⟩) (CR (L2.CX X.prog X.w) X.stack X.prog X.w H1 s1 Q NoE) s1 := by
    obtain ⟨oc, od, kV, doc, pm, an, cdv, ct, osl, rfl, lk, hcd⟩ := F.ex
    refine run_ofS (N := Ng) (ps := psg) (us := us) (vs := vs) lk hcd Sc hr I1.env0 (by have q := hbd s1 us I1.kIn (by rw [List.append_nil, ← r.length, lvs, hps]); rwa [List.append_nil] at q) r (by rw [lvs, hps]) fun hr' => ?_
    have Jd : JudgeOk (cxOf (L2.CX X.prog X.w) X.prog X.w X.K X.mg X.base Ng gx (defScope st) g cdv X.A X.stack s1 H1 NoE) Z (Gz (Γ.X Lv1) H1 f n noPin) jn m jm :=
      judge_fn (X := cxOf (L2.CX X.prog X.w) X.prog X.w X.K X.mg X.base Ng gx (defScope st) g cdv X.A X.stack s1 H1 NoE) J (hr'.mono (Nat.le_succ _)) hkj hbj hNj hvj hjd hjc
    refine ⟨_, bd cdv X.A X.stack s1 H1 (Γ.X Lv1) _ hr' Jd, ds.map Sl.fz ++ List.replicate (Ng.length - ds.length) Sl.no, fun _ => [], ?_, ps_goP (Γ := Gz (Γ.X Lv1) H1 f n noPin) rfl rfl rfl (fun cls d σ H' h => h) po⟩
    have lt : (vs.take n).length = n := by rw [← rds.length]; exact hn
    have start : Rl Z (Gz (Γ.X Lv1) H1 f n noPin) (ds.map Sl.fz ++ List.replicate (Ng.length - ds.length) Sl.no) (fun _ => []) (L2.start Ng (vs.take n ++ [V.ref f])) H1 := by
      refine rl_start2 (Γ := Gz (Γ.X Lv1) H1 f n noPin) rfl rfl rfl (fun a h => R1.xs h) R1.tb rds (by simp only [lt, List.length_singleton]; omega) (fun i v h => ?_) fun a o h => h.elim
      have h : (if i = n then some (V.ref f) else none) = some v := h
      by_cases hi : i = n
      · rw [if_pos hi] at h
        cases h
        unfold L2.start
        rw [hi, List.getElem?_append_left (by simp only [List.length_map, List.length_append, lt, List.length_singleton]; omega), List.getElem?_map, List.getElem?_append_right (by rw [lt]; exact Nat.le_refl _), lt, Nat.sub_self]
        rfl
      · rw [if_neg hi] at h; cases h
    rw [← evs] at start
    exact start
  refine wpAny_call (codeAny_mono run fun r s' hq => ?_)
  cases r with
  | error e =>
    obtain ⟨_, _, _, _, _, _, _, _, _, _, _, _, z⟩ := hq
    exact z.elim
  | ok fl =>
    cases fl with
    | ret u => exact I1.after hq
    | next => exact False.elim hq
    | brk => exact False.elim hq
    | cont => exact False.elim hq
end
end PD

set_option linter.all false
set_option maxRecDepth 100000
set_option maxHeartbeats 1000000
/-! PD29: instances: fields read, methods of data, constructors. -/
namespace PD
open PySem PySem.Spec PyProof.Rows L2

/-- e.f, e data of the class c -/
def eAtt (c f : Str) (fa : S → R W) : S → R W := fun s => (fa s).bind fun w s1 => match fzW w with
  | some (.ins c' ns vs) => if c' = c then ofO s1 ((dgetK ns vs f).map W.d) else .st
  | _ => .st
theorem look_zip {Z : Zt} {Y : Addr → Prop} {H : Hp} {f : Str} : ∀ {ns : List Str} {ds : List D} {vs : List V} {d : D}, RepL Z Y H ds vs → dgetK ns ds f = some d → ∃ v, (ns.zip vs).lookup f = some v ∧ Rep Z Y H d v
  | [], ds, vs, d, h, e => by cases ds <;> cases e
  | x :: ns, [], vs, d, h, e => by cases e
  | x :: ns, c :: ds, vs, d, h, e => by
    simp only [RepL] at h
    obtain ⟨u, ur, rfl, r1, h⟩ := h
    simp only [dgetK] at e
    rw [List.zip_cons_cons]
    by_cases q : x = f
    · rw [if_pos q] at e
      cases e
      exact ⟨u, by rw [q, List.lookup_cons_self], r1⟩
    · rw [if_neg q] at e
      obtain ⟨v, e2, r2⟩ := look_zip h e
      refine ⟨v, ?_, r2⟩
      rw [List.lookup_cons]
      have : (f == x) = false := by simpa using Ne.symm q
      rw [this]; exact e2
section
variable {X : Cx} {Z : Zt} {Γ : Gm} {e o : Expr} {es : List Expr} {fa fo : S → R W} {fs : S → R (List W)} {pos apos p : Pos} {c f m x : Str} {C : Addr}
theorem de_att (hmg : X.mg = Z.mg) (hC : X.mg c = some (.ref C)) (cl : Cls X.K C) (na : NoAttr X.K C f) (he : PE X e (tE Z Γ fa)) (hb : attributeBase e f X.env (eval e X.env) = eval e X.env := by rfl) : PE X (.Attribute e f pos) (tE Z Γ (eAtt c f fa)) := by
  refine pe_imp (pe_fld he hb) fun σ H Q h => ?_
  obtain ⟨s, Lv, R0, po⟩ := h
  refine ⟨s, Lv, R0, po.bind.mono fun v H1 ⟨w, s1, Lv1, _, R1, F1, r1, po1⟩ => ?_⟩
  split at po1
  · rename_i c' ns vs e1
    by_cases hc : c' = c
    · rw [if_pos hc] at po1
      subst hc
      have r := fz_ok r1 e1
      simp only [Rep] at r
      obtain ⟨a, C', dx, us, rfl, _, hl, hm, ha, rl⟩ := r
      rw [← hmg, hC] at hm
      cases hm
      cases e2 : dgetK ns vs f with
      | none => rw [e2] at po1; exact po1.elim
      | some d =>
        rw [e2] at po1
        obtain ⟨u, e3, r3⟩ := look_zip (ns := ns) rl e2
        exact ⟨a, C, dx, ns.zip us, u, rfl, ha, cl, na, e3, po1.ok R1 r3⟩
    · rw [if_neg hc] at po1; exact po1.elim
  · exact po1.elim
/-- o.m(e, ..), o data of the class c, m a method that changes nothing -/
def rMeth (c m : Str) (n : Nat) (g : List D → FR) (fo : S → R W) (fs : S → R (List W)) : S → R Rv := fun s => (fo s).bind fun w s1 => match fzW w with
  | some (.ins c' ns vs) => if c' = c ∧ m ∉ ns then rCall n (fun ds => g (.ins c' ns vs :: ds)) fs s1 else .st
  | _ => .st
theorem lookup_none {ns : List Str} {us : List V} (h : m ∉ ns) : (ns.zip us).lookup m = none := by
  cases e : (ns.zip us).lookup m with
  | none => rfl
  | some v => exact absurd (List.of_mem_zip (PySem.mem_of_lookup e)).1 h
theorem dr_methP {k n : Nat} {fm : Addr} {fd : FuncData} {ps : List Str} {g : List D → FR} {pl : Sem Bool} (hmg : X.mg = Z.mg) (hC : X.mg c = some (.ref C)) (cl : Cls X.K C) (hm : Meth X.K C m fm) (F : FnOk X.prog X.w X.K X.mg X.base (L2.CX X.prog X.w) k fm fd ps (spP Z (n + 1) g)) (hr : Room k X.A) (hb : Binds X.K fd ps []) (px : PX X Γ) (hE : EConst Γ)
    (ho : PE X o (tE Z Γ fo)) (ha : PA X (e :: es) (tA Z Γ fs)) (hst : starEach (e :: es) X.env = (false, eval e X.env) :: starEach es X.env := by rfl) (hpl : (backTo pos (starEach es X.env)).any (·.1) = false := by rfl)
    (ht : eval (.Call (.Attribute o m apos) (e :: es) [] pos) X.env = (do
      let ov ← eval o X.env
      standAt apos.atName
      let (f, first) ← holding [ov] (getMethod ov m pl)
      callWith pos f first (backTo pos (starEach (e :: es) X.env)) (backToKw pos (keywordEach [] X.env))) := by rfl) :
    PE X (.Call (.Attribute o m apos) (e :: es) [] pos) (tR Z Γ (rMeth c m n g fo fs)) := by
  refine pe_imp (pe_meth (pl := pl) ho cl hm F hr hb .nil px ha hst hpl ht) fun σ H Q h => ?_
  obtain ⟨s, Lv, R0, po⟩ := h
  refine ⟨s, Lv, R0, ?_⟩
  unfold rMeth at po
  cases e1 : fo s with
  | st => rw [e1] at po; exact po.elim
  | er c ns ds s1 => rw [e1] at po; exact po
  | ok w s1 =>
    rw [e1] at po
    simp only [PD.R.bind_ok] at po
    intro v H1 Lv1 R1 F1 r1
    cases e2 : fzW w with
    | none => rw [e2] at po; exact po.elim
    | some d =>
      rw [e2] at po
      cases d with
      | ins c' ns vs =>
        simp only at po
        by_cases hc : c' = c ∧ m ∉ ns
        · rw [if_pos hc] at po
          obtain ⟨hc, hn⟩ := hc
          subst hc
          have rr := fz_ok r1 e2
          have r := rr
          simp only [Rep] at r
          obtain ⟨a, C', dx, us, rfl, _, hl, hm', ha', rl⟩ := r
          rw [← hmg, hC] at hm'
          cases hm'
          refine ⟨a, dx, ns.zip us, rfl, ha', lookup_none hn, ?_⟩
          have po2 : PoR Z Γ (rCall n (fun ds => g (.ins c' ns vs :: ds)) fs s1) Lv1 σ H1 Q := by
            revert po
            unfold PoR
            generalize rCall n (fun ds => g (.ins c' ns vs :: ds)) fs s1 = y
            intro po
            cases y with
            | st => exact po
            | er c ns ds s2 => exact fun cls d H' Lv' R' F' x => po cls d H' Lv' R' (F1.trans F') x
            | ok a s2 => exact fun v H' Lv' L R' F' => po v H' Lv' L R' (F1.trans F')
          refine ⟨s1, Lv1, R1, (call_Po hE R1 po2).mono fun xs H2 ⟨s2, Lv2, ds, R2, F2, r2, hl2, q⟩ => ?_⟩
          rw [List.append_nil]
          refine ⟨by rw [List.length_cons, ← r2.length, hl2], Γ.X Lv2, .ins c' ns vs :: ds, fun a h => R2.xs h, R2.tb, by simp only [RepL]; exact ⟨_, _, rfl, Rep.mono F2 _ _ rr, r2⟩, ?_⟩
          unfold goP at q
          cases e : g (.ins c' ns vs :: ds) with
          | ok r => rw [e] at q; exact q
          | er c ns ds => rw [e] at q; exact q
          | st => rw [e] at q; exact q
        · rw [if_neg hc] at po; exact po.elim
      | _ => exact po.elim
/-- C(e, ..): __init__ by the contract of a def that changes its first argument -/
def rMake (c : Str) (n : Nat) (g : O → List D → FB) (fs : S → R (List W)) : S → R Rv := fun s => (fs s).bind fun ws s1 => match fzL ws with
  | some ds => if ds.length = n then (match g (.ins c [] []) ds with
    | .ok (.d .non) o' => .ok (.o o') s1
    | .er k ns es _ => .er k ns es s1
    | _ => .st) else .st
  | none => .st
theorem dr_make {k n : Nat} {fi : Addr} {fd : FuncData} {ps : List Str} {g : O → List D → FB} (hmg : X.mg = Z.mg) (M : Mk X.K C fi) (F : FnOk X.prog X.w X.K X.mg X.base (L2.CX X.prog X.w) k fi fd ps (spB Z n g)) (hr : Room (k + 1) X.A) (hg : Gl X x) (hm : X.mg x = some (.ref C)) (hb : Binds X.K fd ps []) (px : PX X Γ) (hE : EConst Γ)
    (ha : PA X (e :: es) (tA Z Γ fs)) (hdb : (x == ("__debug__" : Str)) = false := by decide) (he : starEach (e :: es) X.env = (false, eval e X.env) :: starEach es X.env := by rfl) (hpl : (backTo pos (starEach es X.env)).any (·.1) = false := by rfl) :
    PE X (.Call (.Name x p) (e :: es) [] pos) (tR Z Γ (rMake x n g fs)) := by
  refine pe_imp (pe_make M F hr hg hm hb .nil px ha hdb he hpl) fun σ H Q h => ?_
  obtain ⟨s, Lv, R0, po⟩ := h
  refine ⟨s, Lv, R0, ?_⟩
  unfold rMake at po
  cases e1 : fs s with
  | st => rw [e1] at po; exact po.elim
  | er c ns ds s1 => rw [e1] at po; exact po
  | ok ws s1 =>
    rw [e1] at po
    simp only [PD.R.bind_ok] at po
    intro vs H1 Lv1 R1 F1 r1 a dx na nd nad
    rw [List.append_nil]
    cases e2 : fzL ws with
    | none => rw [e2] at po; exact po.elim
    | some ds =>
      rw [e2] at po
      simp only at po
      by_cases hl : ds.length = n
      case neg => rw [if_neg hl] at po; exact po.elim
      rw [if_pos hl] at po
      have r := fzL_ok r1 e2
      have ext : ∀ b o, H1 b = some o → upd (upd H1 dx (.own a)) a (.ins C dx []) b = some o := fun b o e => by
        rw [upd_ne (ne_of_none e na), upd_ne (ne_of_none e nd)]; exact e
      have tha : upd (upd H1 dx (.own a)) a (.ins C dx []) a = some (.ins C dx []) := upd_same
      generalize hH2 : upd (upd H1 dx (.own a)) a (.ins C dx []) = H2 at ext tha
      have sm : Same H1 H2 := fun b o e => ext b o e
      have F12 : Fw Z (Γ.X Lv1) H1 (fun b => Γ.X Lv1 b ∨ b = a) H2 := ⟨fun b o e _ _ => ext b o e, fun b ps e => ⟨ps, ext b _ e⟩, fun b h => h.imp id fun h => by rw [h]; exact na, fun t => t.ext sm⟩
      have th2 : ∀ b, H1 b ≠ none → H2 b ≠ none := fun b h q => by
        cases p : H1 b with
        | none => exact h p
        | some o => rw [ext b o p] at q; cases q
      refine ⟨by rw [List.length_cons, ← r.length, hl], fun b => Γ.X Lv1 b ∨ b = a, .ins x [] [], [a], .ref a, vs, ds, rfl, fun b h => ?_, fun b h => .inr (List.mem_singleton.mp h), by simp, R1.tb.ext sm, ⟨a, C, dx, [], [], rfl, rfl, rfl, by rw [← hmg]; exact hm, tha, rfl, rfl⟩, RepL.mono F12 _ _ r, ?_⟩
      · rcases h with h | h
        · exact th2 b (R1.xs h)
        · rw [h, tha]; simp
      have kpOf : ∀ {H' : Hp}, KpB Z [a] H2 H' → Kp Z H1 H' := fun kp => ⟨fun b o e t => kp.keep b o (ext b o e) (fun q => by rw [List.mem_singleton.mp q, na] at e; cases e) t, fun b ps e => kp.ktbl b ps (ext b _ e), fun t => kp.tabs (t.ext sm)⟩
      cases e3 : g (.ins x [] []) ds with
      | st => rw [e3] at po; exact po.elim
      | er c ns es o' =>
        rw [e3] at po
        simp only at po
        intro cls d H' B' kp nB nw ro' xr σ'
        have R2 := R1.kp (E := Γ.E) (L := []) (kpOf kp) (fun b hb => by cases hb)
        have hX : Γ.plus [] = Γ := plus_nil
        refine hE _ _ _ _ _ (po cls d H' Lv1 (by rw [← hX]; exact R2) (F1.trans (kpOf kp).fw) ?_)
        obtain ⟨C', e1, e2, e3⟩ := xr
        exact ⟨C', e1, e2, e3.imp id fun ⟨dd, vs, a, b, c, d⟩ => ⟨dd, vs, a, b, c, d.mono (Fw.refl.less fun q h => .inl (.inl h))⟩⟩
      | ok rv o' =>
        rw [e3] at po
        cases rv with
        | o q => exact po.elim
        | d q =>
          cases q with
          | non =>
            simp only at po
            intro v H' B' L kp nB nw nL nl ro' rr
            obtain ⟨eL, rr⟩ := rr
            have ev : v = .non := by simpa only [Rep] using rr
            refine ⟨ev, ?_⟩
            have fr : ∀ b ∈ B', H1 b = none := fun b hb => by
              rcases nw b hb with q | q
              · rw [List.mem_singleton.mp q]; exact na
              · cases p : H1 b with
                | none => rfl
                | some o => rw [ext b o p] at q; cases q
            have nBt : ∀ b ∈ B', H' b ≠ none := fun b hb => ro'.there b hb
            have R2 := R1.kp (E := Γ.E) (L := B') (kpOf kp) (fun b hb => ⟨fr b hb, nBt b hb⟩)
            have Fx : Fw Z (Γ.X Lv1) H1 ((Γ.plus B').X Lv1) H' := ⟨fun b o e _ t => (kpOf kp).keep b o e t, (kpOf kp).ktbl, fun b h => by
              rcases h with (h | h) | h
              · exact .inl (.inl h)
              · exact .inr (fr b h)
              · exact .inl (.inr h), (kpOf kp).tabs⟩
            refine po (.ref a) H' Lv1 B' R2 (F1.trans Fx) nB (fun b hb => ⟨fun q => R1.xs q (fr b hb), ?_⟩) (ro'.mono (Fw.refl.less fun b h => ?_) fun _ _ => rfl)
            · cases q : Γ.H0 b with
              | none => rfl
              | some o => exact absurd (fr b hb) (R1.st0 b (by rw [q]; simp))
            · rcases h with (h | h) | h
              · exact .inl (.inl (.inl h))
              · exact .inr (.inl h)
              · exact .inl (.inl (.inr h))
          | _ => exact po.elim
end
end PD

set_option linter.all false
set_option maxRecDepth 100000
set_option maxHeartbeats 1000000
/-! PD30: self.f = e, data. -/
namespace PD
open PySem PySem.Spec PyProof.Rows L2

def setFL : List Str → List Fd → Str → D → Option (List Str × List Fd)
  | [], [], f, d => some ([f], [.d d])
  | x :: ns, y :: fs, f, d => if x = f then (match y with
    | .d _ => some (x :: ns, .d d :: fs)
    | .l _ => none) else (setFL ns fs f d).map fun p => (x :: p.1, y :: p.2)
  | _, _, _, _ => none
/-- a field of an own instance is set to data -/
def O.setF : O → Str → Str → D → Option O
  | .ins c' ns fs, c, f, d => if c' = c ∧ ns.length < 1000 then (setFL ns fs f d).map fun p => .ins c' p.1 p.2 else none
  | _, _, _, _ => none
def sFldD (i : Nat) (c f : Str) (fa : S → R W) : S → SR := fun s => if isOwn s i = true then sBind (fa s) fun w s1 => match fzW w, s1[i]? with
  | some d, some (.ow o) => (match o.setF c f d with
    | some o' => .nx (s1.set i (.ow o'))
    | none => .st)
  | _, _ => .st else .st
theorem setFL_ok {Z : Zt} {Y : Addr → Prop} {H : Hp} {f : Str} {d : D} {v : V} (r : Rep Z Y H d v) : ∀ {ns : List Str} {fs : List Fd} {us : List V} {As : List Addr} {p : List Str × List Fd}, ns.length = us.length → FdL Z Y H fs us As → setFL ns fs f d = some p →
    ∃ us', putF f v (ns.zip us) = p.1.zip us' ∧ p.1.length = us'.length ∧ FdL Z Y H p.2 us' As
  | [], [], us, As, p, hl, h, e => by
    cases e
    obtain ⟨rfl, rfl⟩ := h
    exact ⟨[v], rfl, rfl, v, [], rfl, r, rfl, rfl⟩
  | [], y :: fs, us, As, p, hl, h, e => by cases e
  | x :: ns, [], us, As, p, hl, h, e => by cases e
  | x :: ns, .d q :: fs, us, As, p, hl, h, e => by
    obtain ⟨u, ur, rfl, ru, h⟩ := h
    simp only [setFL] at e
    by_cases hx : x = f
    · rw [if_pos hx] at e
      cases e
      refine ⟨v :: ur, ?_, by simpa using hl, v, ur, rfl, r, h⟩
      rw [List.zip_cons_cons, List.zip_cons_cons]
      unfold putF
      rw [if_pos hx]
    · rw [if_neg hx] at e
      cases e2 : setFL ns fs f d with
      | none => rw [e2] at e; cases e
      | some p2 =>
        rw [e2] at e
        cases e
        obtain ⟨us', h1, h2, h3⟩ := setFL_ok r (by simpa using hl) h e2
        refine ⟨u :: us', ?_, by simpa using h2, u, us', rfl, ru, h3⟩
        rw [List.zip_cons_cons, List.zip_cons_cons]
        unfold putF
        rw [if_neg hx, h1]
  | x :: ns, .l q :: fs, us, As, p, hl, h, e => by
    obtain ⟨a, ur, ws, Ar, rfl, rfl, ha, rw_, h⟩ := h
    simp only [setFL] at e
    by_cases hx : x = f
    · rw [if_pos hx] at e; cases e
    · rw [if_neg hx] at e
      cases e2 : setFL ns fs f d with
      | none => rw [e2] at e; cases e
      | some p2 =>
        rw [e2] at e
        cases e
        obtain ⟨us', h1, h2, h3⟩ := setFL_ok r (by simpa using hl) h e2
        refine ⟨.ref a :: us', ?_, by simpa using h2, a, us', ws, Ar, rfl, rfl, ha, rw_, h3⟩
        rw [List.zip_cons_cons, List.zip_cons_cons]
        unfold putF
        rw [if_neg hx, h1]
section
variable {X : Cx} {Z : Zt} {Γ : Gm} {value : Expr} {fa : S → R W} {pos pos' p1 : Pos} {c f x : Str} {C : Addr}
theorem ds_fldD (i : Nat) (hmg : X.mg = Z.mg) (hC : X.mg c = some (.ref C)) (cl : Cls X.K C) (na : NoAttr X.K C f) (hv : PE X value (tE Z Γ fa)) (hN : X.N[i]? = some x := by rfl) (hvi : Vis X.env.scope x := by first | exact Or.inl rfl | exact Or.inr (Or.inl rfl) | exact Or.inr (Or.inr rfl)) (hd : (x == ("__debug__" : Str)) = false := by decide)
    (hcd : (x == ("__classdict__" : Str)) = false := by decide) (hs : swapsWith value (some (.Attribute (.Name x p1) f pos')) pos.line X.env = pure false := by rfl) : PS X (.Assign [.Attribute (.Name x p1) f pos'] value pos) (tS Z Γ (sFldD i c f fa)) := by
  refine ps_imp (ps_fld (pv i hN hvi hd hcd) hv hs) fun Dn σ H h => ?_
  obtain ⟨s, Lv, R0, po⟩ := h
  unfold sFldD at po
  by_cases hw : isOwn s i = true
  case neg => rw [if_neg hw] at po; exact po.elim
  rw [if_pos hw] at po
  obtain ⟨o0, e0⟩ := isOwn_ok hw
  obtain ⟨v0, hv0, _⟩ := R0.ow e0
  refine ⟨s, Lv, R0, po.bind.mono fun y H1 ⟨w, s1, Lv1, _, R1, F1, r1, po1⟩ => ⟨v0, hv0, ?_⟩⟩
  cases e1 : fzW w with
  | none => rw [e1] at po1; exact po1.elim
  | some d =>
    cases e2 : s1[i]? with
    | none => rw [e1, e2] at po1; exact po1.elim
    | some sl =>
      cases sl with
      | no => rw [e1, e2] at po1; exact po1.elim
      | fz q => rw [e1, e2] at po1; exact po1.elim
      | ow o =>
        rw [e1, e2] at po1
        simp only at po1
        cases o with
        | ins c' ns fs =>
          simp only [O.setF] at po1
          by_cases hc : c' = c ∧ ns.length < 1000
          · rw [if_pos hc] at po1
            obtain ⟨hc, hlen⟩ := hc
            subst hc
            cases e3 : setFL ns fs f d with
            | none => rw [e3] at po1; exact po1.elim
            | some p =>
              rw [e3] at po1
              simp only [Option.map_some] at po1
              obtain ⟨v, ev, a, C', dx, us, As, rfl, eL, hl, hm, ha, hF⟩ := R1.ow e2
              rw [hv0] at ev
              cases ev
              rw [← hmg, hC] at hm
              cases hm
              obtain ⟨us', h1, h2, h3⟩ := setFL_ok (fz_ok r1 e1) hl hF e3
              have nAs : a ∉ As := by
                have := R1.nd i
                rw [eL] at this
                exact (List.nodup_cons.mp this).1
              obtain ⟨R2, F2⟩ := R1.ownPut (x := .ins c' p.1 p.2) (o' := .ins C dx (putF f y (ns.zip us))) (List.getElem?_eq_some_iff.mp e2).1 (by rw [eL]; exact List.mem_cons_self) ha (fun ps z => by cases z) (fun c q z => by cases z)
                fun F => ⟨_, hv0, a, C, dx, us', As, rfl, eL, h2, by rw [← hmg]; exact hC, by rw [upd_same, h1], h3.mono F _ _ _ fun b hb => upd_ne fun z => nAs (by rw [← z]; exact hb)⟩
              exact ⟨a, C, dx, ns.zip us, rfl, ha, cl, na, by rw [List.length_zip, ← hl, Nat.min_self]; exact hlen, po1.nx R2 F2⟩
          · rw [if_neg hc] at po1; exact po1.elim
        | _ => exact po1.elim
end
end PD

set_option linter.all false
set_option maxRecDepth 100000
set_option maxHeartbeats 2000000
/-! PD31: dict comprehensions. -/
namespace PD
open PySem PySem.Spec PyProof.Rows L2

/-- in a comprehension: what is made stands at p -/
def Gm.blo (Γ : Gm) (p : Addr) (o : HO) : Gm := { Γ.plus [p] with E := fun _ _ _ _ => False, pin := fun a u => Γ.pin a u ∨ (a = p ∧ u = o) }
def dcD (vs : List Nat) (t : D → S → R Unit) (c : S → R Bool) (fk fv : S → R W) : List D → List Key → List D → S → R (List Key × List D)
  | [], ks, us, s => .ok (ks, us) s
  | d :: ds, ks, us, s => match t d s with
    | .ok _ s1 => (c s1).bind fun b s2 => if b = true then (fk s2).bind fun w s3 => (fv s3).bind fun u s4 => match (fzW w).bind keyD, fzW u with
        | some k, some x => if noOwn vs s4 = true ∧ us.length < lim then dcD vs t c fk fv ds (putKs ks k) (putVs ks us k x) (clr vs s4) else .st
        | _, _ => .st
      else if noOwn vs s2 = true then dcD vs t c fk fv ds ks us (clr vs s2) else .st
    | _ => .st
def eDcD (vs : List Nat) (t : D → S → R Unit) (fi : S → R (List D)) (c : S → R Bool) (fk fv : S → R W) : S → R W := fun s => (fi s).bind fun ds s1 => if noOwn vs s1 = true then (match dcD vs t c fk fv ds [] [] (clr vs s1) with
    | .ok r s2 => .ok (.d (.dic r.1 r.2)) (rst vs s1 s2)
    | _ => .st) else .st
theorem Gm.NT.blo {Γ : Gm} {p : Addr} {o : HO} (h : Γ.NT) (ht : ∀ xs, o ≠ .tup xs) : (Γ.blo p o).NT := ⟨h.1, fun a ha => by
  rcases ha with ha | ha
  · obtain ⟨o, h1, h2⟩ := h.2 a ha
    exact ⟨o, h1.imp id .inl, h2⟩
  · exact ⟨o, .inr (.inr ⟨List.mem_singleton.mp ha, rfl⟩), ht⟩⟩
section
variable {Z : Zt} {Γ : Gm} {s : S} {Lv : Nat → List Addr} {σ : L2.St} {H : Hp} {p : Addr} {o o' : HO}
theorem Rl.toBlo (R : Rl Z Γ s Lv σ H) (np : H p = none) (ht : ∀ ps, o ≠ .tbl ps) : Rl Z (Γ.blo p o) s Lv σ (upd H p o) := by
  have R1 := R.kp (E := fun _ _ _ _ => False) (L := [p]) (.same (same_new (o := o) np)) (fun b hb => by rw [List.mem_singleton.mp hb, upd_same]; exact ⟨np, by simp⟩)
  refine ⟨R1.len, R1.sl, R1.out, R1.nd, R1.dj, R1.lvb, R1.keep, R1.ktbl, R1.st0, R1.x0, R1.bx, R1.tb, R1.bor, fun a u h => ?_⟩
  rcases h with h | ⟨rfl, rfl⟩
  · exact R1.pn a u h
  · exact ⟨.inl (.inr (by simp)), .inl fun q => R.x0 a (R.bx a q) np, ht, upd_same⟩
theorem Rl.growO (R : Rl Z (Γ.blo p o) s Lv σ H) (hB : ∀ a ∈ Γ.B, Γ.X0 a) (hX : ¬ Γ.X0 p) (np : ∀ u, ¬ Γ.pin p u) (h0 : Γ.H0 p = none) (ht : ∀ ps, o ≠ .tbl ps) (hc : ∀ c q, o ≠ LamX.CodeO c q) (ht' : ∀ ps, o' ≠ .tbl ps) :
    Rl Z (Γ.blo p o') s Lv σ (upd H p o') ∧ Fw Z ((Γ.blo p o).X Lv) H ((Γ.blo p o').X Lv) (upd H p o') := by
  have ho := (R.pn p o (.inr ⟨rfl, rfl⟩)).2.2.2
  have xp : (Γ.blo p o).X0 p := .inr (by simp)
  have nL : ∀ i, p ∉ Lv i := fun i hi => by
    rcases R.lvb i p hi with z | z
    · exact hX (hB p z.2)
    · exact z.2 xp
  have F : Fw Z ((Γ.blo p o).X Lv) H ((Γ.blo p o').X Lv) (upd H p o') := by
    refine ⟨fun a u h n _ => ?_, fun a ps h => ?_, fun a h => .inl h, fun h q hq => tabs_upd ho ht hc (h q hq)⟩
    · rw [upd_ne fun z => n (by rw [z]; exact .inl xp)]; exact h
    · rw [upd_ne fun z => by rw [z, ho] at h; exact ht ps (Option.some.inj h)]
      exact ⟨ps, h⟩
  have ne : ∀ a u, H a = some u → a ≠ p → upd H p o' a = some u := fun a u h n => by rw [upd_ne n]; exact h
  have nn : ∀ a, H a ≠ none → upd H p o' a ≠ none := fun a h => by
    by_cases z : a = p
    · rw [z, upd_same]; simp
    · rw [upd_ne z]; exact h
  refine ⟨⟨R.len, fun i x hx => (R.sl i x hx).mono F fun a ha => upd_ne fun z => nL i (by rw [← z]; exact ha), R.out, R.nd, R.dj, R.lvb, fun a u h n t => ne a u (R.keep a u h n t) fun z => ?_, fun a ps h => ?_, fun a h => nn a (R.st0 a h), fun a h => nn a (R.x0 a h), R.bx, F.tabs R.tb, R.bor, fun a u h => ?_⟩, F⟩
  · have h : Γ.H0 a = some u := h
    rw [z, h0] at h; cases h
  · obtain ⟨qs, e⟩ := R.ktbl a ps h
    exact F.ktbl a qs e
  · rcases h with h | ⟨rfl, rfl⟩
    · obtain ⟨p1, p2, p3, p4⟩ := R.pn a u (.inl h)
      exact ⟨p1, p2, p3, ne a u p4 fun z => np u (by rw [← z]; exact h)⟩
    · exact ⟨.inl xp, .inl fun q => hX (hB a q), ht', upd_same⟩
/-- out of a dict's block -/
theorem Rl.rstO {s s' : S} {Lv Lv' : Nat → List Addr} {H H' : Hp} {vs : List Nat} {ob : HO} (R0 : Rl Z Γ s Lv σ H) (R1 : Rl Z (Γ.blo p ob) s' Lv' (wipe σ vs) H') (F : Fw Z (Γ.X Lv) H ((Γ.blo p ob).X Lv') H') (hn : noOwn vs s = true) (hc : ∀ i ∈ vs, ∀ x, s'[i]? = some x → x = .no) (hl : s'.length = s.length) :
    Rl Z Γ (PD.rst vs s s') Lv' σ H' ∧ Fw Z (Γ.X Lv) H (Γ.X Lv') H' := by
  have F2 : Fw Z ((Γ.blo p ob).X Lv') H' (Γ.X Lv') H' := Fw.refl.less fun a h => by
    rcases h with h | h
    · exact .inl (.inl h)
    · exact .inr h
  have F3 := F.trans F2
  refine ⟨{ len := ?_, sl := fun i x hx => ?_, out := ?_, nd := R1.nd, dj := R1.dj, lvb := fun i a h => ?_, keep := R1.keep, ktbl := R1.ktbl, st0 := R1.st0, x0 := fun a h => R1.x0 a (.inl h), bx := R0.bx, tb := R1.tb, bor := R0.bor, pn := fun a o h => ?_ }, F3⟩
  · rw [rst_len, hl]; exact R0.len
  · rw [rst_get] at hx
    by_cases hi : i ∈ vs
    · rw [if_pos hi] at hx
      cases e : s'[i]? with
      | none => rw [e] at hx; cases hx
      | some y =>
        rw [e] at hx
        have ey := hc i hi y e
        subst ey
        have hLi : Lv' i = [] := R1.sl i _ e
        have hx : s.getD i .no = x := by simpa using hx
        have hlt : i < s.length := by
          obtain ⟨h, _⟩ := List.getElem?_eq_some_iff.mp e
          omega
        have e2 : s[i]? = some x := by
          rw [List.getElem?_eq_getElem hlt, ← hx]
          simp [List.getD, List.getElem?_eq_getElem hlt]
        have q := R0.sl i x e2
        rw [hLi]
        cases x with
        | no => rfl
        | fz d => obtain ⟨_, v, e3, r⟩ := q; exact ⟨rfl, v, e3, r.mono F3⟩
        | ow o => exact absurd e2 (noOwn_ok hn hi o)
    · rw [if_neg hi] at hx
      have q := R1.sl i x hx
      rw [wipe_get, if_neg hi] at q
      exact q.mono F2 fun _ _ => rfl
  · intro i hi
    rw [rst_len] at hi
    exact R1.out i hi
  · rcases R1.lvb i a h with z | z
    · exact .inl z
    · exact .inr ⟨z.1, fun q => z.2 (.inl q)⟩
  · obtain ⟨p1, p2, p3, p4⟩ := R1.pn a o (.inl h)
    exact ⟨R0.pinx a o h, p2, p3, p4⟩
theorem Rl.ofBlo (R : Rl Z (Γ.blo p o) s Lv σ H) (hB : ∀ a ∈ Γ.B, Γ.X0 a) (hP : ∀ a u, Γ.pin a u → Γ.X0 a ∨ Ext u) : Rl Z Γ s Lv σ H :=
  R.less0 (L := [p]) rfl rfl rfl rfl hB fun a u h => let ⟨_, p2, p3, p4⟩ := R.pn a u (.inl h); ⟨hP a u h, p2, p3, p4⟩
end
abbrev tEo (Z : Zt) (Γ : Gm) (f : S → R W) : TE := fun σ H Q => ∃ pa : Addr × HO, tE Z (Γ.blo pa.1 pa.2) f σ H Q
abbrev tTo (Z : Zt) (Γ : Gm) (f : S → R Bool) : TT := fun σ H Q => ∃ pa : Addr × HO, tT Z (Γ.blo pa.1 pa.2) f σ H Q
abbrev tGo (Z : Zt) (Γ : Gm) (ks : List Nat) (t : D → S → R Unit) : TG := fun v σ H Q => ∃ pa : Addr × HO, tG Z (Γ.blo pa.1 pa.2) ks t v σ H Q
section
variable {X : Cx} {Z : Zt} {Γ : Gm} {t : D → S → R Unit} {ks : List Nat} {fi : S → R (List D)} {c : S → R Bool} {fk fv : S → R W} {vs : List Nat}
theorem dc_D (hks : ∀ k ∈ ks, k ∈ vs) (h0 : (vs.all fun i => (Γ.bor i).isNone) = true) {σ : L2.St} {H : Hp} {Q : VK} (h : tE Z Γ (eDcD vs t fi c fk fv) σ H Q) : tDc (tI Z Γ fi) (tGo Z Γ ks t) (tTo Z Γ c) (tEo Z Γ fk) (tEo Z Γ fv) vs σ H Q := by
  obtain ⟨s, Lv, R0, po⟩ := h
  unfold eDcD at po
  refine ⟨s, Lv, R0, po.bind.mono fun J H1 ⟨ds, s1, Lv1, _, R1, F1, itr, po1⟩ => ?_⟩
  by_cases hn : noOwn vs s1 = true
  case neg => rw [if_neg hn] at po1; exact po1.elim
  rw [if_pos hn] at po1
  cases hr : dcD vs t c fk fv ds [] [] (clr vs s1) with
  | st => rw [hr] at po1; exact po1.elim
  | er a b d e => rw [hr] at po1; exact po1.elim
  | ok xs s2 =>
    rw [hr] at po1
    simp only at po1
    intro p np
    have R2 := R1.toBlo (o := .dK []) np (fun ps z => by cases z)
    have Rb : Rl Z (Γ.blo p (.dK [])) (clr vs s1) Lv1 (wipe σ vs) (upd H1 p (.dK [])) := R2.clr hn h0
    have npin : ∀ o, ¬ Γ.pin p o := fun o h => by
      obtain ⟨_, _, _, e⟩ := R1.pn p o h
      rw [np] at e; cases e
    have hX0 : ¬ Γ.X0 p := fun h => R1.x0 p h np
    have hH0 : Γ.H0 p = none := by
      cases q : Γ.H0 p with
      | none => rfl
      | some o => exact absurd np (R1.st0 p (by rw [q]; simp))
    have F12 : Fw Z (Γ.X Lv1) H1 ((Γ.blo p (.dK [])).X Lv1) (upd H1 p (.dK [])) := by
      refine ⟨fun a o h _ _ => same_new np a o h, fun a ps h => ⟨ps, same_new np a _ h⟩, fun a h => ?_, fun h => h.ext (same_new np)⟩
      rcases h with (h | h) | h
      · exact .inl (.inl h)
      · rw [List.mem_singleton.mp h]; exact .inr np
      · exact .inl (.inr h)
    refine ⟨fun i m H' => m = ds.length - i ∧ i ≤ ds.length ∧ ∃ s' Lv' kk us ws, Rl Z (Γ.blo p (.dK (kk.zip ws))) s' Lv' (wipe σ vs) H' ∧ Fw Z (Γ.X Lv1) H1 ((Γ.blo p (.dK (kk.zip ws))).X Lv') H' ∧ RepL Z ((Γ.blo p (.dK (kk.zip ws))).X Lv') H' us ws ∧ kk.length = ws.length ∧
      dcD vs t c fk fv (ds.drop i) kk us s' = .ok xs s2 ∧ (∀ i ∈ vs, ∀ x, s'[i]? = some x → x = .no) ∧ s'.length = s1.length, ⟨ds.length, by simp, Nat.zero_le _, clr vs s1, Lv1, [], [], [], Rb, F12, RepL.nil, rfl, hr, clr_empty, clr_len _ _⟩, ?_⟩
    rintro i m H' ⟨rfl, hi, s', Lv', kk, us, ws, R', F', rp, hkw, hlc, hcl, hlen⟩
    by_cases hlt : i < ds.length
    · have hd : ds[i]? = some ds[i] := List.getElem?_eq_getElem hlt
      rw [List.drop_eq_getElem_cons hlt] at hlc
      simp only [dcD] at hlc
      refine .inr ⟨itr.go _ H' F' (R'.alv (fun _ _ _ h => .inl h) fun q => q.blo fun xs z => by cases z) i hlt, _, fun H2 p' => ⟨ds.length - (i + 1), by omega, p'⟩, fun x H3 y => ?_⟩
      obtain ⟨sm, rx⟩ := itr.yld _ H' F' (R'.alv (fun _ _ _ h => .inl h) fun q => q.blo fun xs z => by cases z) i _ hd x H3 y
      refine ⟨(p, .dK (kk.zip ws)), s', Lv', ds[i], R'.same sm, rx, ?_⟩
      cases et : t ds[i] s' with
      | st => rw [et] at hlc; cases hlc
      | er _ _ _ _ => rw [et] at hlc; cases hlc
      | ok u sa =>
        rw [et] at hlc
        simp only at hlc
        intro σ2 H4 Lv4 R4 F4 ⟨hl2, hk2⟩
        have hw : wipe σ2 vs = wipe σ vs := by
          rw [← wipe_wipe (σ := σ)]
          exact wipe_eq hl2 fun j hj => hk2 j fun q => hj (hks j q)
        refine ⟨hw, (p, .dK (kk.zip ws)), sa, Lv4, R4, ?_⟩
        cases ec : c sa with
        | st => rw [ec] at hlc; cases hlc
        | er _ _ _ _ => rw [ec] at hlc; cases hlc
        | ok b sb =>
          rw [ec] at hlc
          simp only [PD.R.bind_ok] at hlc
          rintro b' H5 Lv5 R5 F5 rfl
          have F05 : Fw Z ((Γ.blo p (.dK (kk.zip ws))).X Lv') H' ((Γ.blo p (.dK (kk.zip ws))).X Lv5) H5 := (Fw.same sm).trans (F4.trans F5)
          cases b with
          | false =>
            rw [if_neg Bool.false_ne_true] at hlc ⊢
            by_cases hno : noOwn vs sb = true
            case neg => rw [if_neg hno] at hlc; cases hlc
            rw [if_pos hno] at hlc
            have R6 : Rl Z (Γ.blo p (.dK (kk.zip ws))) (clr vs sb) Lv5 (wipe σ vs) H5 := by
              rw [← hw]
              exact R5.clr hno h0
            exact ⟨rfl, hlt, clr vs sb, Lv5, kk, us, ws, R6, F'.trans F05, rp.mono F05, hkw, hlc, clr_empty, by rw [clr_len, R5.len, hl2, wipe_length]; exact R1.len.symm⟩
          | true =>
            rw [if_pos rfl] at hlc ⊢
            refine ⟨(p, .dK (kk.zip ws)), sb, Lv5, R5, ?_⟩
            cases ef : fk sb with
            | st => rw [ef] at hlc; cases hlc
            | er _ _ _ _ => rw [ef] at hlc; cases hlc
            | ok w sc =>
              rw [ef] at hlc
              simp only [PD.R.bind_ok] at hlc
              intro y H6 Lv6 R6 F6 ry
              refine ⟨(p, .dK (kk.zip ws)), sc, Lv6, R6, ?_⟩
              cases eg : fv sc with
              | st => rw [eg] at hlc; cases hlc
              | er _ _ _ _ => rw [eg] at hlc; cases hlc
              | ok w2 sd =>
                rw [eg] at hlc
                simp only [PD.R.bind_ok] at hlc
                intro z H7 Lv7 R7 F7 rz
                have F07 := F05.trans (F6.trans F7)
                cases ew : (fzW w).bind keyD with
                | none => rw [ew] at hlc; cases hlc
                | some k =>
                  cases ew2 : fzW w2 with
                  | none => rw [ew, ew2] at hlc; cases hlc
                  | some zd =>
                    rw [ew, ew2] at hlc
                    simp only at hlc
                    by_cases hno : noOwn vs sd = true ∧ us.length < lim
                    case neg => rw [if_neg hno] at hlc; cases hlc
                    rw [if_pos hno] at hlc
                    have ek : y = kV k := by
                      cases e3 : fzW w with
                      | none => rw [e3] at ew; cases ew
                      | some kd =>
                        rw [e3] at ew
                        simp only [Option.bind_some] at ew
                        exact keyD_rep (.inl (fz_ok ry e3)) ew
                    have pD := (R7.pn p _ (.inr ⟨rfl, rfl⟩)).2.2.2
                    have rl7 := rp.mono F07
                    refine ⟨kk.zip ws, k, ek, pD, by rw [List.length_zip, hkw, Nat.min_self, ← rp.length]; exact lim_lt hno.2, ?_⟩
                    have R8 : Rl Z (Γ.blo p (.dK (kk.zip ws))) (clr vs sd) Lv7 (wipe σ vs) H7 := by
                      rw [← hw]
                      exact R7.clr hno.1 h0
                    obtain ⟨R9, F9⟩ := R8.growO (o' := .dK ((putKs kk k).zip (putVs kk ws k z))) R1.bx hX0 npin hH0 (fun ps z => by cases z) (fun c q z => by cases z) (fun ps z => by cases z)
                    rw [putK_zip k z kk ws hkw]
                    exact ⟨rfl, hlt, clr vs sd, Lv7, putKs kk k, putVs kk us k zd, putVs kk ws k z, R9, (F'.trans F07).trans F9, (put_rep (fz_ok rz ew2) rl7).mono F9, put_length hkw, hlc, clr_empty, by rw [clr_len, R7.len, hl2, wipe_length]; exact R1.len.symm⟩
    · have e : i = ds.length := by omega
      subst e
      rw [List.drop_length] at hlc
      simp only [dcD] at hlc
      cases hlc
      obtain ⟨R9, F9⟩ := R1.rstO R' F' hn hcl hlen
      refine .inl ⟨itr.stop _ H' F' (R'.alv (fun _ _ _ h => .inl h) fun q => q.blo fun xs z => by cases z), po1 _ H' Lv' R9 F9 ?_⟩
      have q4 := (R'.pn p _ (.inr ⟨rfl, rfl⟩)).2.2.2
      show Rep Z (Γ.X Lv') H' (.dic kk us) (.ref p)
      simp only [Rep]
      refine ⟨p, ws, rfl, fun h => ?_, hkw, q4, rp.mono (Fw.refl.less fun a h => ?_)⟩
      · rcases h with h | ⟨j, h⟩
        · exact hX0 h
        · rcases R'.lvb j p h with z | z
          · exact hX0 (R1.bx p z.2)
          · exact z.2 (.inr (by simp))
      · rcases h with h | h
        · exact .inl (.inl h)
        · exact .inr h
variable {kx vx tg iter : Expr} {ifs : List Expr} {scope : Scope} {own : List (Str × Nat)} {pos : Pos}
theorem de_dc (hc : X.calm = true) (hN : X.N.Nodup) (hi : PI X tg iter (tI Z Γ fi)) (ok : BlkOk X.N X.env.scope scope own) (hks : ∀ k ∈ ks, k ∈ own.map (·.2)) (h0 : ((own.map (·.2)).all fun i => (Γ.bor i).isNone) = true)
    (hg : ∀ (s : Shared) (H : Hp) (C : Addr) (cl : List (Str × Addr)) (fp : List Addr) (pa : Addr × HO), PG (X.blk s H scope (compEnvC scope cl C X.env) fp) tg (tG Z (Γ.blo pa.1 pa.2) ks t))
    (ht : ∀ (s : Shared) (H : Hp) (C : Addr) (cl : List (Str × Addr)) (fp : List Addr) (pa : Addr × HO), PTs (X.blk s H scope (compEnvC scope cl C X.env) fp) ifs (tT Z (Γ.blo pa.1 pa.2) c))
    (hk : ∀ (s : Shared) (H : Hp) (C : Addr) (cl : List (Str × Addr)) (fp : List Addr) (pa : Addr × HO), PE (X.blk s H scope (compEnvC scope cl C X.env) fp) kx (tE Z (Γ.blo pa.1 pa.2) fk))
    (he : ∀ (s : Shared) (H : Hp) (C : Addr) (cl : List (Str × Addr)) (fp : List Addr) (pa : Addr × HO), PE (X.blk s H scope (compEnvC scope cl C X.env) fp) vx (tE Z (Γ.blo pa.1 pa.2) fv))
    (hs : ∀ x, foldedSetIterable iter X.env x = pure x := by intro _; rfl) : PE X (.DictComp kx vx [⟨tg, iter, ifs, 0⟩] scope pos) (tE Z Γ (eDcD (own.map (·.2)) t fi c fk fv)) :=
  pe_imp (pe_dc hc hN hi ok (fun s H C cl fp => pg_ex (hg s H C cl fp)) (fun s H C cl fp => pts_ex (ht s H C cl fp)) (fun s H C cl fp => pe_ex (hk s H C cl fp)) (fun s H C cl fp => pe_ex (he s H C cl fp)) hs) fun _ _ _ h => dc_D hks h0 h
end
end PD

set_option linter.all false
set_option maxRecDepth 100000
set_option maxHeartbeats 1000000
/-! PD32: a, b, .. = x, y, .. by a tuple (names that are cells, or more than three). -/
namespace PD
open PySem PySem.Spec PyProof.Rows L2

def setV : L2.St → List Nat → List V → L2.St
  | σ, i :: is, v :: vs => setV (σ.set i (some v)) is vs
  | σ, _, _ => σ
def setS : S → List Nat → List Rv → S
  | s, i :: is, r :: rs => setS (s.set i r.sl) is rs
  | s, _, _ => s
def sParT (is : List Nat) (f : S → R (List Rv)) : S → SR := fun s => sBind (f s) fun rs s1 => if rs.length = is.length ∧ rs.length ≤ lim ∧ (is.all fun i => decide (i < s1.length)) = true then .nx (setS s1 is rs) else .st
def gNs (is : List Nat) : TGs := fun vs σ H Q => vs.length = is.length ∧ Q (setV σ is vs) H
section
variable {X : Cx} {Z : Zt} {Γ : Gm} {es : List Expr} {fs : S → R (List Rv)} {pos p : Pos} {x : Str} {names : List Expr} {is : List Nat}
theorem gns_nil : PGs X [] (gNs []) := ⟨fun pins s σ H vs us Q I r h => pgs_nil.run pins s σ H vs us Q I r ⟨List.length_eq_zero_iff.mp h.1, by
  have e := List.length_eq_zero_iff.mp h.1
  subst e
  exact h.2⟩⟩
theorem gns_cons {i : Nat} (hN : X.N.Nodup) (hr : PGs X names (gNs is)) (hi : X.N[i]? = some x := by rfl) (hx : Loc X.env.scope x := by first | exact Or.inl rfl | exact Or.inr rfl) (hf : X.fn x = true ∨ X.env.scope.names.lookup x = some .local := by first | exact .inl rfl | exact .inr rfl | assumption)
    (hs : (assignEach (.Name x p :: names) X.env).map (·.2) = assign (.Name x p) X.env :: (assignEach names X.env).map (·.2) := by rfl) : PGs X (.Name x p :: names) (gNs (i :: is)) := by
  refine ⟨fun pins s σ H vs us Q I r h => ?_⟩
  obtain ⟨hl, q⟩ := h
  cases vs with
  | nil => cases hl
  | cons v vs => exact (pgs_cons (pg_name (pos := p) hN hi hx hf) hr hs).run pins s σ H (v :: vs) us Q I r ⟨v, vs, rfl, by simpa using hl, q⟩
theorem rvL_length : ∀ {rs : List Rv} {vs : List V} {L : List Addr} {Y : Addr → Prop} {H : Hp}, RvRepL Z Y H rs vs L → rs.length = vs.length
  | [], vs, L, Y, H, h => by rw [h.1]; rfl
  | r :: rs, vs, L, Y, H, h => by
    obtain ⟨v, vr, L1, L2, rfl, _, _, h⟩ := h
    rw [List.length_cons, List.length_cons, rvL_length h]
theorem Rl.setAll : ∀ {is : List Nat} {rs : List Rv} {vs : List V} {L : List Addr} {s : S} {Lv : Nat → List Addr} {σ : L2.St} {H : Hp}, Rl Z (Γ.plus L) s Lv σ H → (∀ a ∈ Γ.B, Γ.X0 a) → (∀ a o, Γ.pin a o → Γ.X0 a ∨ Ext o) → (∀ i ∈ is, Γ.bor i = none) → (∀ i ∈ is, i < s.length) → rs.length = is.length → L.Nodup → (∀ b ∈ L, ¬ Γ.X Lv b ∧ Γ.H0 b = none) → RvRepL Z ((Γ.plus L).X Lv) H rs vs L →
    ∃ Lv', Rl Z Γ (setS s is rs) Lv' (setV σ is vs) H ∧ Fw Z ((Γ.plus L).X Lv) H (Γ.X Lv') H
  | [], [], vs, L, s, Lv, σ, H, R, hB, hP, hb, hi, hl, nd, nw, rr => by
    obtain ⟨rfl, rfl⟩ := rr
    rw [plus_nil] at R ⊢
    exact ⟨Lv, R, Fw.refl⟩
  | i :: is, r :: rs, vs, L, s, Lv, σ, H, R, hB, hP, hb, hi, hl, nd, nw, rr => by
    obtain ⟨v, vr, L1, L2, rfl, rfl, q1, q2⟩ := rr
    obtain ⟨R2, F2, nd2, nw2, rl2⟩ := R.setR2 hB hP (hi i List.mem_cons_self) (hb i List.mem_cons_self) nd nw q1 q2
    obtain ⟨Lv', R3, F3⟩ := Rl.setAll (is := is) R2 hB hP (fun j hj => hb j (List.mem_cons_of_mem _ hj)) (fun j hj => by rw [List.length_set]; exact hi j (List.mem_cons_of_mem _ hj)) (by simpa using hl) nd2 nw2 rl2
    exact ⟨Lv', R3, F2.trans F3⟩
  | [], _ :: _, _, _, _, _, _, _, _, _, _, _, _, hl, _, _, _ => by cases hl
  | _ :: _, [], _, _, _, _, _, _, _, _, _, _, _, hl, _, _, _ => by cases hl
theorem ds_parT {k1 k2 : Nat} {p1 p2 : Pos} (hc : X.calm = true) (ha : PA X es (tAR Z Γ fs)) (hg : PGs X names (gNs is)) (hb : (is.all fun i => (Γ.bor i).isNone) = true) (hn : (assignEach names X.env).length = is.length := by rfl) (hst : (assignEach names X.env).findIdx? (·.1) = none := by rfl)
    (hs : swapsWithSole [.Tuple names k1 p1] (.Tuple es k2 p2) pos.line X.env = pure false := by rfl) (hw : swappedStores [.Tuple names k1 p1] (.Tuple es k2 p2) X.env = pure none := by rfl)
    (h1 : (assignEach [.Tuple names k1 p1] X.env).map (·.2) = [assign (.Tuple names k1 p1) X.env] := by rfl) : PS X (.Assign [.Tuple names k1 p1] (.Tuple es k2 p2) pos) (tS Z Γ (sParT is fs)) := by
  refine ps_imp (ps_asg (pe_tup (x1 := k2) (pos := p2) ha) (pg_tup (k := k1) (pos := p1) hc hg hn hst) hs hw h1) fun Dn σ H h => ?_
  obtain ⟨s, Lv, R0, po⟩ := h
  refine ⟨s, Lv, R0, ?_⟩
  unfold sParT at po
  cases e1 : fs s with
  | st => rw [e1] at po; exact po.elim
  | er c ns ds s1 => rw [e1] at po; exact fun cls d H' Lv' R' F' x => po cls d _ H' Lv' R' F' x
  | ok rs s1 =>
    rw [e1] at po
    simp only [sBind_ok] at po
    by_cases hl : rs.length = is.length ∧ rs.length ≤ lim ∧ (is.all fun i => decide (i < s1.length)) = true
    case neg => rw [if_neg hl] at po; exact po.elim
    rw [if_pos hl] at po
    obtain ⟨l1, l2, l3⟩ := hl
    intro vs H' Lv' L R1 F1 nd nw rr
    have lv := rvL_length rr
    refine ⟨by rw [← lv]; exact lim_line l2, fun q nq => ?_⟩
    have sm := same_new (o := .tup vs) nq
    refine ⟨q, vs, rfl, SqT.of upd_same, by rw [← lv]; exact l1, by rw [← lv]; exact l1, ?_⟩
    have rr' : RvRepL Z ((Γ.plus L).X Lv') (upd H' q (.tup vs)) rs vs L := by
      have k : ∀ (rs : List Rv) (vs0 : List V) (L0 : List Addr), RvRepL Z ((Γ.plus L).X Lv') H' rs vs0 L0 → RvRepL Z ((Γ.plus L).X Lv') (upd H' q (.tup vs)) rs vs0 L0 := by
        intro rs
        induction rs with
        | nil => intro vs0 L0 h; exact h
        | cons r rs ih =>
          intro vs0 L0 h
          obtain ⟨v, vr, A, B, e1, e2, e3, e4⟩ := h
          exact ⟨v, vr, A, B, e1, e2, e3.hold (Fw.same sm) (fun a _ o h _ => sm a o h), ih _ _ e4⟩
      exact k _ _ _ rr
    obtain ⟨Lv2, R2, F2⟩ := (R1.same sm).setAll R0.bx R0.pinx (fun i hi => by
      have := List.all_eq_true.mp hb i hi
      simpa using this) (fun i hi => by
      have := List.all_eq_true.mp l3 i hi
      simpa using this) l1 nd nw rr'
    exact po.nx R2 (F1.trans ((Fw.same sm).trans F2))
end
end PD

set_option linter.all false
set_option maxRecDepth 100000
set_option maxHeartbeats 1000000
/-! PD33: d.get(k, x), d data. -/
namespace PD
open PySem PySem.Spec PyProof.Rows L2

def eGet2 (fd fk fx : S → R W) : S → R W := fun s => (fd s).bind fun w s1 => match fzW w with
  | some (.dic ks vs) => (fk s1).bind fun k s2 => (fx s2).bind fun x s3 => match (fzW k).bind keyD, fzW x with
    | some k', some d => .ok (.d ((dgetK ks vs k').getD d)) s3
    | _, _ => .st
  | _ => .st
theorem dgetK_none {κ α : Type} [DecidableEq κ] {k : κ} : ∀ {ks : List κ} {ds : List α} {vs : List V}, ks.length = vs.length → ds.length = vs.length → dgetK ks ds k = none → valV (ks.zip vs) k = none
  | [], ds, vs, _, _, _ => rfl
  | x :: ks, [], vs, h, h2, _ => by
    have : vs = [] := List.length_eq_zero_iff.mp h2.symm
    subst this
    simp at h
  | x :: ks, c :: ds, [], h, h2, e => by simp at h2
  | x :: ks, c :: ds, u :: vs, h, h2, e => by
    simp only [dgetK] at e
    by_cases q : x = k
    · rw [if_pos q] at e; cases e
    · rw [if_neg q] at e
      rw [List.zip_cons_cons, valV_neg (p := (x, u)) q]
      exact dgetK_none (by simpa using h) (by simpa using h2) e
section
variable {X : Cx} {Z : Zt} {Γ : Gm} {o e f : Expr} {fd fk fx : S → R W} {apos cpos : Pos}
theorem de_get2 (hu : X.A.units + 1 < cLine) (ho : PE X o (tE Z Γ fd)) (he : PE X e (tE Z Γ fk)) (hf : PE X f (tE Z Γ fx)) (hb : attributeBase o "get" X.env (eval o X.env) = eval o X.env := by rfl)
    (few : ((backTo cpos (starEach [e, f] X.env)).all (fun x => !x.1) && (backToKw cpos (keywordEach [] X.env)).all (fun x => x.1.isSome) && decide (([e, f] : List Expr).length + ([] : List Keyword).length + (if ([] : List Keyword).isEmpty then 0 else 1) < 30)) = true := by rfl)
    (line : (apos.endLine == cpos.line) = true := by rfl) (trees : backTo cpos (starEach [e, f] X.env) = [(false, eval e X.env), (false, eval f X.env)] := by rfl) :
    PE X (.Call (.Attribute o "get" apos) [e, f] [] cpos) (tE Z Γ (eGet2 fd fk fx)) := by
  refine pe_imp (pe_dget2 hu ho he hf ⟨hb, few, line, trees⟩) fun σ H Q h => ?_
  obtain ⟨s, Lv, R0, po⟩ := h
  unfold eGet2 at po
  refine ⟨s, Lv, R0, po.bind.mono fun v H1 ⟨w, s1, Lv1, _, R1, F1, r1, po1⟩ => ?_⟩
  split at po1
  · rename_i ks vs e1
    have rr := fz_ok r1 e1
    have r := rr
    simp only [Rep] at r
    obtain ⟨a, us, rfl, _, hl, ha, rl⟩ := r
    refine ⟨a, rfl, .inl ⟨_, .inl ha⟩, s1, Lv1, R1, po1.bind.mono fun y H2 ⟨k, s2, Lv2, _, R2, F2, r2, po2⟩ => ⟨s2, Lv2, R2, po2.bind.mono fun z H3 ⟨x, s3, Lv3, _, R3, F3, r3, po3⟩ => ?_⟩⟩
    cases e2 : (fzW k).bind keyD with
    | none => rw [e2] at po3; exact po3.elim
    | some k' =>
      cases e3 : fzW x with
      | none => rw [e2, e3] at po3; exact po3.elim
      | some d =>
        rw [e2, e3] at po3
        simp only at po3
        have ek : y = kV k' := by
          cases e4 : fzW k with
          | none => rw [e4] at e2; cases e2
          | some kd =>
            rw [e4] at e2
            simp only [Option.bind_some] at e2
            exact keyD_rep (.inl (fz_ok r2 e4)) e2
        subst ek
        have r4 := Rep.mono (F2.trans F3) _ _ rr
        simp only [Rep] at r4
        obtain ⟨a', us', ea, _, hl', ha', rl'⟩ := r4
        cases ea
        refine ⟨valV (ks.zip us') k', DGet.k ha', ?_⟩
        cases e5 : dgetK ks vs k' with
        | none =>
          rw [e5] at po3
          rw [dgetK_none hl' rl'.length e5]
          exact po3.ok R3 (fz_ok r3 e3)
        | some d' =>
          rw [e5] at po3
          obtain ⟨u, e6, r6⟩ := dgetK_rep (ks := ks) rl' e5
          rw [e6]
          exact po3.ok R3 r6
  · exact po1.elim
end
end PD

set_option linter.all false
set_option maxRecDepth 100000
set_option maxHeartbeats 1000000
/-! PD34: a def that changes its first argument, its code object known. -/
namespace PD
open PySem PySem.Spec PyProof.Rows L2
section
variable {P : Program} {w : World} {Z : Zt} {base : Heap}
theorem okBc {c : Addr} {x qual : Str} {st : Stmt} {f : Addr} {fd : FuncData} {N ps : List Str} {k n : Nat} {body : S → SR} (F : Fun Z.K x qual st f fd) (Sc : FnScope N ps (defScope st)) (hps : ps.length = n + 1) (hc : fd.code = .ref c)
    (hb : ∀ (A : Around) (outer : List Env) (s : Shared) (Y : Addr → Prop) (H : Hp) (B : List Addr) (v0 : V) (E : XK), Room k (A.deeper (envOfC qual (defScope st) s.heap.objs.size f (.ref c))) →
      PSs (cxOf (L2.CX P w) P w Z.K Z.mg base N qual (defScope st) f (.ref c) A outer s H E) (defBody st) (tS Z (GpB Y H B v0 E) body)) :
    FnOk P w Z.K Z.mg base (L2.CX P w) (k + 1) f fd ps (spB Z n (runB N.length body)) := by
  obtain ⟨oc, od, kV, doc, pm, an, cdv, ct, osl, rfl, lk, hcd⟩ := F.ex
  have ec : cdv = .ref c := hc
  subst ec
  refine fn_of lk hcd Sc (fun vs H Q E h => by rw [hps]; exact h.1) fun A outer s H vs Q E hr h => ?_
  obtain ⟨hl, Y, o, B, v0, vr, ds, rfl, hY, hB, nB, tb, r0, r, po⟩ := h
  refine ⟨_, hb A outer s Y H B v0 E hr, _, _, rl_startB (N := N) (E := E) hY hB nB tb r0 r, ?_⟩
  unfold runB at po
  have kp : ∀ {s' : S} {L : List Addr} {σ' : L2.St} {H' : Hp} {Lv' : Nat → List Addr}, Rl Z ((GpB Y H B v0 E).plus L) s' Lv' σ' H' → KpB Z B H H' := fun R' =>
    ⟨fun a o h n t => R'.keep a o h n t, R'.ktbl, fun _ => R'.tb, R'.st0⟩
  have own : ∀ {s' : S} {L : List Addr} {σ' : L2.St} {H' : Hp} {Lv' : Nat → List Addr} {o' : O}, Rl Z ((GpB Y H B v0 E).plus L) s' Lv' σ' H' → ow0 s' = some o' → (Lv' 0).Nodup ∧ (∀ b ∈ Lv' 0, b ∈ B ∨ H b = none) ∧ OwnRep Z (fun a => Y a ∨ a ∈ Lv' 0 ∨ a ∈ L) H' o' v0 (Lv' 0) := fun {s' L σ' H' Lv' o'} R' e => by
    obtain ⟨v, e1, e2⟩ := R'.ow (ow0_ok e)
    rw [R'.bor 0 v0 rfl] at e1
    cases e1
    refine ⟨R'.nd 0, fun b hb => (R'.lvb 0 b hb).imp (·.2) (·.1), e2.mono (Fw.refl.less fun a h => ?_) fun _ _ => rfl⟩
    rcases h with h | h | h
    · exact .inl (.inl h)
    · exact .inr ⟨0, h⟩
    · exact .inl (.inr h)
  generalize body (Sl.ow o :: ds.map Sl.fz ++ List.replicate (N.length - (ds.length + 1)) Sl.no) = b at po
  cases b with
  | nx s' =>
    intro σ' H' Lv' R' F'
    simp only at po
    cases e0 : ow0 s' with
    | none => rw [e0] at po; exact po.elim
    | some o' =>
      rw [e0] at po
      have R1 : Rl Z ((GpB Y H B v0 E).plus []) s' Lv' σ' H' := by rw [plus_nil]; exact R'
      obtain ⟨q1, q2, q3⟩ := own R1 e0
      exact po .non H' (Lv' 0) [] (kp R1) q1 q2 List.nodup_nil (fun b hb => by cases hb) q3 ⟨rfl, rep_non⟩
  | rt q s' =>
    intro v σ' H' Lv' L R' F' nd nw rr
    simp only at po
    cases e0 : ow0 s' with
    | none => rw [e0] at po; exact po.elim
    | some o' =>
      rw [e0] at po
      obtain ⟨q1, q2, q3⟩ := own R' e0
      refine po v H' (Lv' 0) L (kp R') q1 q2 nd (fun b hb => ⟨(nw b hb).2, R'.x0 b (.inr hb), fun q => (nw b hb).1 (.inr ⟨0, q⟩)⟩) q3 (rr.mono (Fw.refl.less fun a h => ?_) fun _ _ => rfl)
      rcases h with h | h | h
      · exact .inl (.inl h)
      · exact .inr ⟨0, h⟩
      · exact .inl (.inr h)
  | er c ns es s' =>
    intro cls d σ' H' Lv' R' F' x
    simp only at po
    cases e0 : ow0 s' with
    | none => rw [e0] at po; exact po.elim
    | some o' =>
      rw [e0] at po
      have R1 : Rl Z ((GpB Y H B v0 E).plus []) s' Lv' σ' H' := by rw [plus_nil]; exact R'
      obtain ⟨q1, q2, q3⟩ := own R1 e0
      have G : ∀ a, (Y a ∨ a ∈ Lv' 0) → (GpB Y H B v0 E).X Lv' a := fun a h => h.imp id fun h => ⟨0, h⟩
      refine po cls d H' (Lv' 0) (kp R1) q1 q2 (q3.mono (Fw.refl.less fun a h => h.imp id .inl) fun _ _ => rfl) ?_
      obtain ⟨C, e1, e2, e3⟩ := x
      exact ⟨C, e1, e2, e3.imp id fun ⟨dd, vs, a, b, c, d⟩ => ⟨dd, vs, a, b, c, d.mono (Fw.refl.less G)⟩⟩
  | bk s' => exact po.elim
  | ct s' => exact po.elim
  | st => exact po.elim
end
end PD

set_option linter.all false
set_option maxRecDepth 100000
set_option maxHeartbeats 1000000
/-! PD35: an own object goes from one name to another. -/
namespace PD
open PySem PySem.Spec PyProof.Rows L2

def rMv (j : Nat) : S → R Rv := fun s => match s[j]? with
  | some (.ow o) => .ok (.o o) (s.set j .no)
  | _ => .st
section
variable {X : Cx} {Z : Zt} {Γ : Gm} {pos : Pos} {x : Str}
theorem Rl.leave {s : S} {Lv : Nat → List Addr} {σ : L2.St} {H : Hp} {j : Nat} {o : O} (R0 : Rl Z Γ s Lv σ H) (h : s[j]? = some (.ow o)) (hb : j ≠ 0 ∨ Γ.B = []) :
    ∃ v, σ[j]? = some (some v) ∧ Rl Z (Γ.plus (Lv j)) (s.set j .no) (setL Lv j []) σ H ∧ Fw Z (Γ.X Lv) H ((Γ.plus (Lv j)).X (setL Lv j [])) H ∧ (Lv j).Nodup ∧ (∀ b ∈ Lv j, ¬ Γ.X (setL Lv j []) b ∧ Γ.H0 b = none) ∧ OwnRep Z ((Γ.plus (Lv j)).X (setL Lv j [])) H o v (Lv j) := by
  obtain ⟨v, e, r⟩ := R0.ow h
  have hj : j < s.length := (List.getElem?_eq_some_iff.mp h).1
  have low : ∀ b ∈ Lv j, Γ.H0 b = none ∧ ¬ Γ.X0 b := fun b hb' => by
    rcases R0.lvb j b hb' with z | z
    · rcases hb with hb | hb
      · exact absurd z.1 hb
      · have := z.2; rw [hb] at this; cases this
    · exact z
  have sub : ∀ i b, b ∈ setL Lv j [] i → b ∈ Lv i ∧ i ≠ j := fun i b h => by
    by_cases hi : i = j
    · rw [hi, setL_same] at h; cases h
    · rw [setL_ne hi] at h; exact ⟨h, hi⟩
  have F : Fw Z (Γ.X Lv) H ((Γ.plus (Lv j)).X (setL Lv j [])) H := Fw.refl.less fun a h => by
    rcases h with (h | h) | ⟨i, h⟩
    · exact .inl h
    · exact .inr ⟨j, h⟩
    · exact .inr ⟨i, (sub i a h).1⟩
  refine ⟨v, e, ⟨by rw [List.length_set]; exact R0.len, fun i y hy => ?_, fun i hi => ?_, fun i => ?_, fun i k a h1 h2 => R0.dj i k a (sub i a h1).1 (sub k a h2).1, fun i a h => ?_, R0.keep, R0.ktbl, R0.st0, fun a h => ?_, fun a h => .inl (R0.bx a h), R0.tb, R0.bor, fun a u h => ?_⟩, F, R0.nd j, fun b hb' => ⟨fun q => ?_, (low b hb').1⟩, r.mono F fun _ _ => rfl⟩
  · by_cases hi : i = j
    · subst hi
      rw [List.getElem?_set_self hj] at hy
      cases hy
      rw [setL_same]; rfl
    · rw [List.getElem?_set_ne (Ne.symm hi)] at hy
      rw [setL_ne hi]
      exact (R0.sl i y hy).mono F fun _ _ => rfl
  · rw [List.length_set] at hi
    by_cases hij : i = j
    · rw [hij, setL_same]
    · rw [setL_ne hij]; exact R0.out i hi
  · by_cases hi : i = j
    · rw [hi, setL_same]; exact List.nodup_nil
    · rw [setL_ne hi]; exact R0.nd i
  · obtain ⟨h1, h2⟩ := sub i a h
    rcases R0.lvb i a h1 with z | z
    · exact .inl z
    · exact .inr ⟨z.1, fun q => q.elim z.2 fun q => h2 (R0.dj i j a h1 q)⟩
  · rcases h with h | h
    · exact R0.x0 a h
    · exact R0.there h
  · obtain ⟨p1, p2, p3, p4⟩ := R0.pn a u h
    exact ⟨p1.imp .inl id, p2, p3, p4⟩
  · rcases q with q | ⟨i, q⟩
    · exact (low b hb').2 q
    · obtain ⟨h1, h2⟩ := sub i b q
      exact h2 (R0.dj i j b h1 hb')
theorem dr_mv (j : Nat) (hb : j ≠ 0 ∨ Γ.B = [] := by first | exact .inl (by decide) | exact .inr rfl) (hN : X.N[j]? = some x := by rfl) (hv : Vis X.env.scope x := by first | exact Or.inl rfl | exact Or.inr (Or.inl rfl) | exact Or.inr (Or.inr rfl)) (hd : (x == ("__debug__" : Str)) = false := by decide)
    (hcd : (x == ("__classdict__" : Str)) = false := by decide) : PE X (.Name x pos) (tR Z Γ (rMv j)) := by
  refine pe_imp (pv j hN hv hd hcd) fun σ H Q h => ?_
  obtain ⟨s, Lv, R0, po⟩ := h
  unfold rMv at po
  split at po
  · rename_i a s' e
    split at e
    · rename_i o e2
      cases e
      obtain ⟨v, e3, R1, F1, nd, nw, r⟩ := R0.leave e2 hb
      exact ⟨v, e3, po v H _ (Lv j) R1 F1 nd nw r⟩
    · cases e
  · rename_i e
    split at e <;> cases e
  · exact po.elim
end
end PD

set_option linter.all false
set_option maxRecDepth 100000
set_option maxHeartbeats 1000000
/-! PD36: {t: v}, t a tuple that was just made. -/
namespace PD
open PySem PySem.Spec PyProof.Rows L2
section
variable {X : Cx} {k v : Expr} {tk tv : TE} {pos : Pos}
theorem pe_dispT1 (hu : X.A.units + 1 < cLine) (hk : PE X k tk) (hv : PE X v tv) : PE X (.Dict [some k] [v] pos) (fun σ H Q => ∀ p, H p = none → tPairs [(tk, tv)] σ (upd H p (.dT [])) fun ps H2 => ∃ x y, ps = [(x, y)] ∧ ∃ b ks, x = .ref b ∧ H2 b = some (.tup (ks.map kV)) ∧ H2 p = some (.dT []) ∧ Q (.ref p) (upd H2 p (.dT [(ks, y)]))) := by
  refine ⟨fun pins s σ H Q I q => ?_⟩
  have hn := I.hok.fresh (Nat.le_refl s.heap.objs.size)
  have I1 := I.laid (a := s.heap.objs.size) (o := .dT []) (h' := s.heap.push { cls := .type "dict", data := .dict #[] }) (t' := s.toks) (fun _ _ q => Heap.get?_push_of_some _ q) (Nat.le_refl _) (dt_empty s.heap I.big)
  have hz := zip_pairTrees [some k] [v] X.env pos rfl rfl
  have hl := pairTrees_length [some k] [v] X.env pos rfl rfl
  have hl1 : (pairTrees [some k] [v] X.env pos).length = 1 := hl
  rw [arm_eval_Dict, hz, dictDisplay_pairs _ (by intro z; rw [z] at hl1; cases hl1) (by rw [hl1]; decide)]
  refine wpAny_bind (wpAny_standAt (wpAny_bind ?_))
  unfold subDict
  refine wpAny_bind (wpAny_alloc ?_)
  refine wpAny_bind (wpAny_holding ?_)
  rw [if_pos (by rw [hl1]; decide)]
  refine wpAny_bind (wpAny_mono ((pps_cons (pos := pos) hk hv pps_nil).run pins _ σ _ (fun ps H2 => ∃ x y, ps = [(x, y)] ∧ ∃ b ks, x = .ref b ∧ H2 b = some (.tup (ks.map kV)) ∧ H2 s.heap.objs.size = some (.dT []) ∧ Q (.ref s.heap.objs.size) (upd H2 s.heap.objs.size (.dT [(ks, y)]))) I1 ?_) (fun vs s3 h3 => ?_) fun _ _ e => e)
  · exact q _ hn
  · obtain ⟨ps, H2, I2, rel, x, y, rfl, b, ks, rfl, hb, hp, q2⟩ := h3
    obtain ⟨u, w2, rfl, ru, rw2⟩ : ∃ u w2, vs = [(u, w2)] ∧ RelV (.ref b) u ∧ RelV y w2 := by
      cases rel with
      | cons h t =>
        cases t
        rename_i q'
        exact ⟨q'.1, q'.2, rfl, h.1, h.2⟩
    obtain rfl : u = Value.ref b := ru
    obtain ⟨z, hd, xs, relx, dd⟩ := dt_of I2.hok hp
    have ex : xs = [] := List.length_eq_zero_iff.mp (Paired.length relx).symm
    subst ex
    refine wpAny_holding ?_
    rw [List.forIn_cons]
    refine wpAny_bind (wpAny_bind (wpAny_bind (wpAny_dictSet_heap (hsz := by simp) (show X.A.units < cLine by omega) (key_of I2.hok hb) dd fun h' dd' hs => wpAny_pure ?_)))
    dsimp only
    rw [List.forIn_nil]
    refine wpAny_pure (wpAny_pure (wpAny_pure (wpAny_pure ?_)))
    obtain ⟨q, es, ep, hq, h2, h3, h4, _, h5⟩ := dd'
    refine ⟨.ref s.heap.objs.size, upd H2 s.heap.objs.size (.dT (putK [] ks y)), d_write (ob := .dT (putK [] ks y)) I2 (by rw [hp]; exact True.intro) hs ⟨q, hq⟩ ⟨Nat.le_trans (length_putK [] ks y) (by simp only [List.length_nil]; decide), hd, _, (relx.put ks hb rw2).keeps fun c ys ec => ?_, q, es, ep, hq, h2, h3, h4, h5⟩, rfl, q2⟩
    rw [upd_ne (ne_of ec hp (fun z => nomatch z))]
    exact ec
end
end PD

set_option linter.all false
set_option maxRecDepth 100000
set_option maxHeartbeats 1000000
/-! PD37: dicts with tuple keys: keys just made, displays, stores. -/
namespace PD
open PySem PySem.Spec PyProof.Rows L2

def kD : Key → D
  | .inl i => .int i
  | .inr s => .str s
def keyT (ks : List Key) : D := .tup (ks.map kD)
def keysD : List D → Option (List Key)
  | [] => some []
  | d :: ds => (keyD d).bind fun k => (keysD ds).map (k :: ·)
/-- a tuple of keys, just made -/
def tKy (Z : Zt) (Γ : Gm) (f : S → R (List Key)) : TE := fun σ H Q => ∃ s Lv, Rl Z Γ s Lv σ H ∧ Po Z Γ (fun Y _ H ks v => ∃ b, v = .ref b ∧ ¬ Y b ∧ H b = some (.tup (ks.map kV))) (f s) Lv σ H Q
def kUnit : S → R (List Key) := fun s => .ok [] s
def kTup (f : S → R W) : S → R (List Key) := fun s => (f s).bind fun w s1 => match w with
  | .d (.lst ds) => ofO s1 (keysD ds)
  | _ => .st
theorem keysD_rep {Z : Zt} {Y : Addr → Prop} {H : Hp} : ∀ {ds : List D} {vs : List V} {ks : List Key}, RepL Z Y H ds vs → keysD ds = some ks → vs = ks.map kV
  | [], vs, ks, h, e => by
    simp only [RepL] at h
    cases e
    rw [h]; rfl
  | d :: ds, vs, ks, h, e => by
    simp only [RepL] at h
    obtain ⟨v, vr, rfl, r, h⟩ := h
    simp only [keysD] at e
    cases e1 : keyD d with
    | none => rw [e1] at e; cases e
    | some k =>
      rw [e1] at e
      cases e2 : keysD ds with
      | none => rw [e2] at e; cases e
      | some kr =>
        rw [e2] at e
        cases e
        rw [keyD_rep (.inl r) e1, keysD_rep h e2]
        rfl
theorem kV_rep {Z : Zt} {Y : Addr → Prop} {H : Hp} : ∀ (ks : List Key), RepL Z Y H (ks.map kD) (ks.map kV)
  | [] => by simp only [List.map, RepL]
  | k :: ks => by
    simp only [List.map, RepL]
    refine ⟨_, _, rfl, ?_, kV_rep ks⟩
    cases k with
    | inl i => exact rep_int
    | inr s => exact rep_str
section
variable {X : Cx} {Z : Zt} {Γ : Gm} {e k v : Expr} {fa fv : S → R W} {fk : S → R (List Key)} {pos p : Pos} {x : Str}
theorem dky_unit {x1} : PE X (.Tuple [] x1 pos) (tKy Z Γ kUnit) := by
  refine pe_imp (pe_tup pa_nil) fun σ H Q h => ?_
  obtain ⟨s, Lv, R, po⟩ := h
  refine ⟨by decide, fun q nq => ?_⟩
  exact po.ok' R (same_new nq) ⟨q, rfl, fun h => R.xs h nq, upd_same⟩
theorem dky_tup (hg : Gl X "tuple") (hm : X.mg "tuple" = none) (ha : PE X e (tE Z Γ fa)) (he : starEach [e] X.env = (false, eval e X.env) :: starEach [] X.env := by rfl) (hpl : (backTo pos (starEach [] X.env)).any (·.1) = false := by rfl) :
    PE X (.Call (.Name "tuple" p) [e] [] pos) (tKy Z Γ (kTup fa)) := by
  refine pe_imp (pe_callTy call_tuple_of hg hm (by decide +kernel) (pa_cons ha pa_nil he) (by decide) (by decide) he hpl) fun σ H Q h => ?_
  obtain ⟨s, Lv, R0, po⟩ := h
  refine ⟨s, Lv, R0, po.bind.mono fun v H1 ⟨w, s1, Lv1, _, R1, F1, r1, po1⟩ => ?_⟩
  cases w with
  | p i => exact po1.elim
  | d d =>
    cases d with
    | lst ds =>
      simp only at po1
      have r1 : Rep Z (Γ.X Lv1) H1 (.lst ds) v := r1
      simp only [Rep] at r1
      obtain ⟨a, vs, rfl, n, ha, r⟩ := r1
      cases e1 : keysD ds with
      | none => rw [e1] at po1; exact po1.elim
      | some ks =>
        rw [e1] at po1
        simp only [ofO] at po1
        refine ⟨a, vs, rfl, .inl ⟨.of ha, fun l nl => ?_⟩⟩
        refine po1.ok' R1 (same_new nl) ⟨l, rfl, fun h => R1.xs h nl, ?_⟩
        rw [upd_same, keysD_rep r e1]
    | _ => exact po1.elim
/-- {t: v} -/
def rDispT (fk : S → R (List Key)) (fv : S → R W) : S → R Rv := fun s => match fk s with
  | .ok ks s1 => (match fv s1 with
    | .ok u s2 => (match fzW u with
      | some d => .ok (.o (.dit [ks] [d])) s2
      | none => .st)
    | _ => .st)
  | _ => .st
theorem dr_dispT (hu : X.A.units + 1 < cLine) (hk : ∀ L H0, PE X k (tKy Z (Γ.hold L H0) fk)) (hv : ∀ L H0, PE X v (tE Z (Γ.hold L H0) fv)) : PE X (.Dict [some k] [v] pos) (tR Z Γ (rDispT fk fv)) := by
  refine pe_imp (pe_dispT1 hu (tk := fun σ H Q => ∃ L H0, tKy Z (Γ.hold L H0) fk σ H Q) (tv := fun σ H Q => ∃ L H0, tE Z (Γ.hold L H0) fv σ H Q) ⟨fun pins s σ H Q I ⟨L, H0, h⟩ => (hk L H0).run pins s σ H Q I h⟩ ⟨fun pins s σ H Q I ⟨L, H0, h⟩ => (hv L H0).run pins s σ H Q I h⟩) fun σ H Q h => ?_
  obtain ⟨s, Lv, R0, po⟩ := h
  intro p np
  obtain ⟨R1, F1, _, nw⟩ := new_own (o := .dT []) R0 np
  have R1h : Rl Z (Γ.hold [p] (upd H p (.dT []))) s Lv σ (upd H p (.dT [])) := by
    refine ⟨R1.len, R1.sl, R1.out, R1.nd, R1.dj, R1.lvb, R1.keep, R1.ktbl, R1.st0, R1.x0, R1.bx, R1.tb, R1.bor, fun a o h => ?_⟩
    rcases h with h | ⟨h1, h2, h3⟩
    · exact R1.pn a o h
    · exact ⟨.inl (.inr h1), .inl fun q => (nw a h1).1 (.inl (R0.bx a q)), h2, h3⟩
  have hpin : ∀ o, ¬ Γ.pin p o := fun o h => by
    have := (R0.pn p o h).2.2.2
    rw [np] at this; cases this
  have hX0 : ¬ Γ.X0 p := fun q => (nw p (by simp)).1 (.inl q)
  unfold rDispT at po
  cases e1 : fk s with
  | st => rw [e1] at po; exact po.elim
  | er c ns ds s1 => rw [e1] at po; exact po.elim
  | ok ks s1 =>
    rw [e1] at po
    simp only at po
    cases e2 : fv s1 with
    | st => rw [e2] at po; exact po.elim
    | er c ns ds s2 => rw [e2] at po; exact po.elim
    | ok u s2 =>
      rw [e2] at po
      simp only at po
      cases e3 : fzW u with
      | none => rw [e3] at po; exact po.elim
      | some d =>
        rw [e3] at po
        simp only at po
        refine ⟨[p], upd H p (.dT []), s, Lv, R1h, ?_⟩
        rw [e1]
        intro x H2 Lv2 R2 F2 r2
        obtain ⟨b, rfl, nb, hb⟩ := r2
        refine ⟨[p], upd H p (.dT []), s1, Lv2, R2, ?_⟩
        rw [e2]
        intro y H3 Lv3 R3 F3 r3
        have hp3 : H3 p = some (.dT []) := (R3.pn p _ (.inr ⟨by simp, fun ps z => (by cases z), upd_same⟩)).2.2.2
        have hb3 : H3 b = some (.tup (ks.map kV)) := F3.keep b _ hb nb fun ps z => by cases z
        refine ⟨_, y, rfl, b, ks, rfl, hb3, hp3, ?_⟩
        obtain ⟨R4, F4⟩ := R3.drop (o' := .dT [(ks, y)]) ((nw p (by simp)).2) hX0 R0.bx R0.pinx hpin hp3 (fun ps z => by cases z) (fun c q z => by cases z)
        refine po (.ref p) _ Lv3 [p] R4 (F1.trans (F2.trans (F3.trans F4))) (by simp) (fun b hb => ?_) ⟨p, [y], rfl, rfl, rfl, ?_, RepL.one ((fz_ok r3 e3).mono F4)⟩
        · rw [List.mem_singleton.mp hb]
          refine ⟨fun q => ?_, (nw p (by simp)).2⟩
          rcases q with q | ⟨i, q⟩
          · exact hX0 q
          · rcases R3.lvb i p q with z | z
            · exact hX0 (R0.bx p z.2)
            · exact z.2 (.inr (by simp))
        · rw [upd_same]; rfl
/-! ### stores -/
/-- x[k] = v, x an own dict with tuple keys -/
def gSetT (i : Nat) (f : S → R (List Key)) : D → S → R Unit := fun d s => if isOwn s i = true then (match f s with
  | .ok k s1 => (match s1[i]? with
    | some (.ow (.dit ks vs)) => if vs.length < lim then .ok () (s1.set i (.ow (.dit (putKs ks k) (putVs ks vs k d)))) else .st
    | _ => .st)
  | _ => .st) else .st
theorem dg_setT (n : Nat) (hu : X.A.units + 1 < cLine) {i : Expr} {p1 : Pos} (hi : PE X i (tKy Z Γ fk)) (hN : X.N[n]? = some x := by rfl) (hv : Vis X.env.scope x := by first | exact Or.inl rfl | exact Or.inr (Or.inl rfl) | exact Or.inr (Or.inr rfl)) (hd : (x == ("__debug__" : Str)) = false := by decide)
    (hcd : (x == ("__classdict__" : Str)) = false := by decide) (ha : ∀ v, assign (.Subscript (.Name x p1) i pos) X.env v = (do
      let ov ← holding [v] (eval (.Name x p1) X.env)
      let iv ← holding [v, ov] (eval i X.env)
      standAt pos
      holding [v, ov, iv] (setItem ov iv v)
      release [v, ov, iv] []) := by intro _; rfl) : PG X (.Subscript (.Name x p1) i pos) (tG Z Γ [] (gSetT n fk)) := by
  refine pg_imp (pg_sub (pv n hN hv hd hcd) hi (set_dict hu) ha) fun v σ H Q h => ?_
  obtain ⟨s, Lv, d, R0, r, po⟩ := h
  unfold gSetT at po
  by_cases hw : isOwn s n = true
  · rw [if_pos hw] at po
    obtain ⟨o0, e0⟩ := isOwn_ok hw
    obtain ⟨v0, hv0, _⟩ := R0.ow e0
    refine ⟨v0, hv0, s, Lv, R0, ?_⟩
    cases e1 : fk s with
    | st => rw [e1] at po; exact po.elim
    | er c ns ds s1 => rw [e1] at po; exact po.elim
    | ok k s1 =>
      rw [e1] at po
      simp only at po
      intro kv H1 Lv1 R1 F1 r1
      obtain ⟨b, rfl, nb, hb⟩ := r1
      cases e3 : s1[n]? with
      | none => rw [e3] at po; exact po.elim
      | some sl =>
        cases sl with
        | no => rw [e3] at po; exact po.elim
        | fz d => rw [e3] at po; exact po.elim
        | ow o =>
          cases o with
          | dit ks vs =>
            rw [e3] at po
            simp only at po
            by_cases hl : vs.length < lim
            · rw [if_pos hl] at po
              obtain ⟨v1, e5, a, us, rfl, q2, q3, q4, q5⟩ := R1.ow e3
              rw [hv0] at e5; cases e5
              have hlen : (ks.zip us).length < sizeLine := by
                rw [List.length_zip, q3, Nat.min_self, ← q5.length]
                exact lim_lt hl
              have pz := putK_zip k v ks us q3
              have rd := r.mono F1
              obtain ⟨R2, F2⟩ := R1.ownPut (x := .dit (putKs ks k) (putVs ks vs k d)) (o' := .dT (putK (ks.zip us) k v)) (List.getElem?_eq_some_iff.mp e3).1 (by rw [q2]; simp) q4 (fun ps z => by cases z) (fun c q z => by cases z)
                fun F => ⟨_, hv0, a, putVs ks us k v, rfl, q2, put_length q3, by rw [upd_same, pz], (put_rep rd q5).mono F⟩
              exact ⟨a, _, rfl, DPut.t q4 hb hlen, po σ _ Lv1 R2 (F1.trans F2) ⟨rfl, fun _ _ => rfl⟩⟩
            · rw [if_neg hl] at po; exact po.elim
          | lst _ => rw [e3] at po; exact po.elim
          | dic _ _ => rw [e3] at po; exact po.elim
          | ins _ _ _ => rw [e3] at po; exact po.elim
  · rw [if_neg hw] at po; exact po.elim
end
end PD

set_option linter.all false
set_option maxRecDepth 100000
set_option maxHeartbeats 1000000
/-! PD38: walks over the keys of an own dict, which is locked meanwhile. -/
namespace PD
open PySem PySem.Spec PyProof.Rows L2

/-- the own dict of slot i is locked at d -/
def Gm.lk (Γ : Gm) (d : Addr) (u : HO) (i : Nat) : Gm := { Γ.plus [d] with E := fun _ _ _ _ => False, bor := fun j => if j = i then some (.ref d) else Γ.bor j, pin := fun a o => Γ.pin a o ∨ (a = d ∧ o = u) }
section
variable {X : Cx} {Z : Zt} {Γ : Gm} {s : S} {Lv : Nat → List Addr} {σ : L2.St} {H : Hp} {p : Addr} {o o' : HO}
/-- a forbidden object, new since the entry, is written -/
theorem Rl.writeX (R : Rl Z Γ s Lv σ H) (xp : Γ.X0 p) (hB : Γ.B = []) (h0 : Γ.H0 p = none) (np : ∀ u, ¬ Γ.pin p u) (ho : H p = some o) (ht : ∀ ps, o ≠ .tbl ps) (hc : ∀ c q, o ≠ LamX.CodeO c q) :
    Rl Z Γ s Lv σ (upd H p o') ∧ Fw Z (Γ.X Lv) H (Γ.X Lv) (upd H p o') := by
  have nL : ∀ i, p ∉ Lv i := fun i hi => by
    rcases R.lvb i p hi with z | z
    · rw [hB] at z; cases z.2
    · exact z.2 xp
  have F : Fw Z (Γ.X Lv) H (Γ.X Lv) (upd H p o') := by
    refine ⟨fun a u h n _ => ?_, fun a ps h => ?_, fun a h => .inl h, fun h q hq => tabs_upd ho ht hc (h q hq)⟩
    · rw [upd_ne fun z => n (by rw [z]; exact .inl xp)]; exact h
    · rw [upd_ne fun z => by rw [z, ho] at h; exact ht ps (Option.some.inj h)]
      exact ⟨ps, h⟩
  have ne : ∀ a u, H a = some u → a ≠ p → upd H p o' a = some u := fun a u h n => by rw [upd_ne n]; exact h
  have nn : ∀ a, H a ≠ none → upd H p o' a ≠ none := fun a h => by
    by_cases z : a = p
    · rw [z, upd_same]; simp
    · rw [upd_ne z]; exact h
  refine ⟨⟨R.len, fun i x hx => (R.sl i x hx).mono F fun a ha => upd_ne fun z => nL i (by rw [← z]; exact ha), R.out, R.nd, R.dj, R.lvb, fun a u h n t => ne a u (R.keep a u h n t) fun z => ?_, fun a ps h => ?_, fun a h => nn a (R.st0 a h), fun a h => nn a (R.x0 a h), R.bx, F.tabs R.tb, R.bor, fun a u h => ?_⟩, F⟩
  · rw [z, h0] at h; cases h
  · obtain ⟨qs, e⟩ := R.ktbl a ps h
    exact F.ktbl a qs e
  · obtain ⟨p1, p2, p3, p4⟩ := R.pn a u h
    exact ⟨p1, p2, p3, ne a u p4 fun z => np u (by rw [← z]; exact h)⟩
theorem Gm.NT.lk {d : Addr} {u : HO} {i : Nat} (h : Γ.NT) (ht : ∀ xs, u ≠ .tup xs) : (Γ.lk d u i).NT := ⟨h.1, fun a ha => by
  rcases ha with ha | ha
  · obtain ⟨o, h1, h2⟩ := h.2 a ha
    exact ⟨o, h1.imp id .inl, h2⟩
  · exact ⟨u, .inr (.inr ⟨List.mem_singleton.mp ha, rfl⟩), ht⟩⟩
theorem Rl.lock (R : Rl Z Γ s Lv σ H) (hn : Γ.NT) {i : Nat} {ks : List (List Key)} {vs : List D} (e : s[i]? = some (.ow (.dit ks vs))) :
    ∃ d us, σ[i]? = some (some (.ref d)) ∧ H d = some (.dT (ks.zip us)) ∧ ks.length = us.length ∧ RepL Z (Γ.X Lv) H vs us ∧ Γ.H0 d = none ∧ ¬ Γ.X0 d ∧ ∀ od,
      Rl Z (Γ.lk d (.frz od (.dT (ks.zip us))) i) (s.set i .no) (setL Lv i []) σ (upd H d (.frz od (.dT (ks.zip us)))) ∧ Fw Z (Γ.X Lv) H ((Γ.lk d (.frz od (.dT (ks.zip us))) i).X (setL Lv i [])) (upd H d (.frz od (.dT (ks.zip us)))) := by
  obtain ⟨v, e1, a, us, rfl, e2, e3, e4, r⟩ := R.ow e
  obtain ⟨v', e1', R1, F1, nd, nw, r1⟩ := R.leave e (.inr hn.1)
  rw [e1] at e1'; cases e1'
  rw [e2] at R1 F1 nw
  have hd0 : Γ.H0 a = none := (nw a (by simp)).2
  have hdX : ¬ Γ.X0 a := fun q => (nw a (by simp)).1 (.inl q)
  refine ⟨a, us, e1, e4, e3, r, hd0, hdX, fun od => ?_⟩
  have npin : ∀ u, ¬ Γ.pin a u := fun u q => by
    rcases (R.pn a u q).1 with z | ⟨φ, rfl⟩
    · exact hdX z
    · have := (R.pn a _ q).2.2.2
      rw [e4] at this; cases this
  obtain ⟨R2, F2⟩ := R1.writeX (p := a) (o' := .frz od (.dT (ks.zip us))) (.inr (by simp)) hn.1 hd0 npin e4 (fun ps z => by cases z) (fun c q z => by cases z)
  refine ⟨⟨R2.len, R2.sl, R2.out, R2.nd, R2.dj, R2.lvb, R2.keep, R2.ktbl, R2.st0, R2.x0, R2.bx, R2.tb, fun j v h => ?_, fun b u h => ?_⟩, F1.trans F2⟩
  · by_cases hj : j = i
    · have h : (if j = i then some (V.ref a) else Γ.bor j) = some v := h
      rw [if_pos hj] at h
      cases h
      rw [hj]; exact e1
    · have h : (if j = i then some (V.ref a) else Γ.bor j) = some v := h
      rw [if_neg hj] at h
      exact R.bor j v h
  · rcases h with h | ⟨rfl, rfl⟩
    · exact R2.pn b u h
    · exact ⟨.inl (.inr (by simp)), .inl (by show b ∉ Γ.B; rw [hn.1]; simp), fun ps z => (by cases z), upd_same⟩
theorem Rl.unlock {s0 s : S} {Lv0 Lv : Nat → List Addr} {σ0 σ : L2.St} {H0 H : Hp} {i : Nat} {d : Addr} {od : Obj} {ks : List (List Key)} {vs : List D} {us : List V} (R0 : Rl Z Γ s0 Lv0 σ0 H0) (hn : Γ.NT) (hb : Γ.bor i = none) (hd : Γ.H0 d = none) (hX : ¬ Γ.X0 d) (hi : i < s.length) (hl : ks.length = us.length)
    (R : Rl Z (Γ.lk d (.frz od (.dT (ks.zip us))) i) s Lv σ H) (r : RepL Z ((Γ.plus [d]).X Lv) H vs us) :
    Rl Z Γ (s.set i (.ow (.dit ks vs))) (setL Lv i [d]) σ (upd H d (.dT (ks.zip us))) ∧ Fw Z ((Γ.lk d (.frz od (.dT (ks.zip us))) i).X Lv) H (Γ.X (setL Lv i [d])) (upd H d (.dT (ks.zip us))) := by
  have hσ : σ[i]? = some (some (.ref d)) := R.bor i (.ref d) (by show (if i = i then some (V.ref d) else Γ.bor i) = _; rw [if_pos rfl])
  have hp := (R.pn d _ (.inr ⟨rfl, rfl⟩)).2.2.2
  have R1 : Rl Z (Γ.plus [d]) s Lv σ H := ⟨R.len, R.sl, R.out, R.nd, R.dj, R.lvb, R.keep, R.ktbl, R.st0, R.x0, R.bx, R.tb, fun j v h => by
    by_cases hj : j = i
    · rw [hj] at h
      have h : Γ.bor i = some v := h
      rw [hb] at h; cases h
    · exact R.bor j v (by show (if j = i then some (V.ref d) else Γ.bor j) = _; rw [if_neg hj]; exact h), fun a u h => R.pn a u (.inl h)⟩
  have npin : ∀ u, ¬ Γ.pin d u := fun u q => by
    rcases (R0.pn d u q).1 with z | ⟨φ, rfl⟩
    · exact hX z
    · have := (R.pn d _ (.inl q)).2.2.2
      rw [hp] at this; cases this
  obtain ⟨R2, F2⟩ := R1.writeX (p := d) (o' := .dT (ks.zip us)) (.inr (by simp)) hn.1 hd npin hp (fun ps z => by cases z) (fun c q z => by cases z)
  have nLd : ∀ j, d ∉ Lv j := fun j hj => by
    rcases R.lvb j d hj with z | z
    · have := z.2
      have this : d ∈ Γ.B := this
      rw [hn.1] at this; cases this
    · exact z.2 (.inr (by simp))
  obtain ⟨R3, F3⟩ := R2.setR (i := i) (r := .o (.dit ks vs)) (v := .ref d) R0.bx R0.pinx hi hb (by simp) (fun b hb' => by
    rw [List.mem_singleton.mp hb']
    refine ⟨fun q => ?_, hd⟩
    rcases q with q | ⟨j, q⟩
    · exact hX q
    · exact nLd j q) ⟨d, us, rfl, rfl, hl, by rw [upd_same], r.mono F2⟩
  have e : σ.set i (some (.ref d)) = σ := by
    refine List.ext_getElem? fun j => ?_
    by_cases hj : j = i
    · rw [hj, List.getElem?_set_self (by rw [← R.len]; exact hi), hσ]
    · rw [List.getElem?_set_ne (Ne.symm hj)]
  rw [e] at R3
  exact ⟨R3, F2.trans F3⟩
/-! ### statements and expressions under the lock -/
def sLock (i : Nat) (f : List D → S → SR) : S → SR := fun s => match s[i]? with
  | some (.ow (.dit ks vs)) => (match f (ks.map keyT) (s.set i .no) with
    | .nx s' => if i < s'.length then .nx (s'.set i (.ow (.dit ks vs))) else .st
    | _ => .st)
  | _ => .st
def eLock (i : Nat) (f : List D → S → R W) : S → R W := fun s => match s[i]? with
  | some (.ow (.dit ks vs)) => (match f (ks.map keyT) (s.set i .no) with
    | .ok w s' => (match fzW w with
      | some d => if i < s'.length then .ok (.d d) (s'.set i (.ow (.dit ks vs))) else .st
      | none => .st)
    | _ => .st)
  | _ => .st
theorem ds_lock (i : Nat) {st : Stmt} {f : List D → S → SR} (hn : Γ.NT) (hb : Γ.bor i = none) (h : ∀ d od kvs, PS X st (tS Z (Γ.lk d (.frz od (.dT kvs)) i) (f (kvs.map fun kv => keyT kv.1)))) : PS X st (tS Z Γ (sLock i f)) := by
  refine ps_imp (ps_lock (t := fun Dn σ H => ∃ d od kvs, tS Z (Γ.lk d (.frz od (.dT kvs)) i) (f (kvs.map fun kv => keyT kv.1)) Dn σ H) ⟨fun pins s σ H Dn I ⟨d, od, kvs, q⟩ => (h d od kvs).run pins s σ H Dn I q⟩) fun Dn σ H h => ?_
  obtain ⟨s, Lv, R0, po⟩ := h
  unfold sLock at po
  cases e : s[i]? with
  | none => rw [e] at po; exact po.elim
  | some x =>
    rw [e] at po
    cases x with
    | no => exact po.elim
    | fz _ => exact po.elim
    | ow x =>
      cases x with
      | lst _ => exact po.elim
      | dic _ _ => exact po.elim
      | ins _ _ _ => exact po.elim
      | dit ks vs =>
        simp only at po
        obtain ⟨d, us, e1, e2, hl, r, hd0, hdX, lk⟩ := R0.lock hn e
        refine ⟨d, _, e2, trivial, fun od => ⟨d, od, ks.zip us, s.set i .no, setL Lv i [], (lk od).1, ?_⟩⟩
        have F0 := (lk od).2
        have ek : ((ks.zip us).map fun kv => keyT kv.1) = ks.map keyT := by
          rw [show (fun kv : List Key × V => keyT kv.1) = keyT ∘ Prod.fst from rfl, ← List.map_map, List.map_fst_zip (by omega)]
        rw [ek]
        cases ef : f (ks.map keyT) (s.set i .no) with
        | nx s' =>
          rw [ef] at po
          simp only at po
          by_cases hi : i < s'.length
          · rw [if_pos hi] at po
            intro σ' H' Lv' R' F'
            refine ⟨(R'.pn d _ (.inr ⟨rfl, rfl⟩)).2.2.2, ?_⟩
            obtain ⟨R3, F3⟩ := R0.unlock hn hb hd0 hdX hi hl R' (r.mono (F0.trans F'))
            exact po σ' _ _ R3 (F0.trans (F'.trans F3))
          · rw [if_neg hi] at po; exact po.elim
        | _ => rw [ef] at po; exact po.elim
theorem de_lock (i : Nat) {e : Expr} {f : List D → S → R W} (hn : Γ.NT) (hb : Γ.bor i = none) (h : ∀ d od kvs, PE X e (tE Z (Γ.lk d (.frz od (.dT kvs)) i) (f (kvs.map fun kv => keyT kv.1)))) : PE X e (tE Z Γ (eLock i f)) := by
  refine pe_imp (pe_lock (t := fun σ H Q => ∃ d od kvs, tE Z (Γ.lk d (.frz od (.dT kvs)) i) (f (kvs.map fun kv => keyT kv.1)) σ H Q) ⟨fun pins s σ H Q I ⟨d, od, kvs, q⟩ => (h d od kvs).run pins s σ H Q I q⟩) fun σ H Q h => ?_
  obtain ⟨s, Lv, R0, po⟩ := h
  unfold eLock at po
  cases e : s[i]? with
  | none => rw [e] at po; exact po.elim
  | some x =>
    rw [e] at po
    cases x with
    | no => exact po.elim
    | fz _ => exact po.elim
    | ow x =>
      cases x with
      | lst _ => exact po.elim
      | dic _ _ => exact po.elim
      | ins _ _ _ => exact po.elim
      | dit ks vs =>
        simp only at po
        obtain ⟨d, us, e1, e2, hl, r, hd0, hdX, lk⟩ := R0.lock hn e
        refine ⟨d, _, e2, trivial, fun od => ⟨d, od, ks.zip us, s.set i .no, setL Lv i [], (lk od).1, ?_⟩⟩
        have F0 := (lk od).2
        have ek : ((ks.zip us).map fun kv => keyT kv.1) = ks.map keyT := by
          rw [show (fun kv : List Key × V => keyT kv.1) = keyT ∘ Prod.fst from rfl, ← List.map_map, List.map_fst_zip (by omega)]
        rw [ek]
        cases ef : f (ks.map keyT) (s.set i .no) with
        | ok w s' =>
          rw [ef] at po
          simp only at po
          cases ew : fzW w with
          | none => rw [ew] at po; exact po.elim
          | some dw =>
            rw [ew] at po
            simp only at po
            by_cases hi : i < s'.length
            · rw [if_pos hi] at po
              intro v H' Lv' R' F' rv
              refine ⟨(R'.pn d _ (.inr ⟨rfl, rfl⟩)).2.2.2, ?_⟩
              obtain ⟨R3, F3⟩ := R0.unlock hn hb hd0 hdX hi hl R' (r.mono (F0.trans F'))
              exact po v _ _ R3 (F0.trans (F'.trans F3)) ((fz_ok rv ew).mono F3)
            · rw [if_neg hi] at po; exact po.elim
        | _ => rw [ef] at po; exact po.elim
/-- the locked dict is walked -/
def iKl (ks : List D) : S → R (List D) := fun s => .ok ks s
theorem di_lk (i : Nat) {x : Str} {tg : Expr} {pos : Pos} {d : Addr} {od : Obj} {kvs : List (List Key × V)} (hn : Γ.NT) (hN : X.N[i]? = some x := by rfl) (hv : Vis X.env.scope x := by first | exact Or.inl rfl | exact Or.inr (Or.inl rfl) | exact Or.inr (Or.inr rfl)) (hd : (x == ("__debug__" : Str)) = false := by decide)
    (hcd : (x == ("__classdict__" : Str)) = false := by decide) : PI X tg (.Name x pos) (tI Z (Γ.lk d (.frz od (.dT kvs)) i) (iKl (kvs.map fun kv => keyT kv.1))) := by
  refine pi_imp (pi_keys (pv i hN hv hd hcd)) fun σ H Q h => ?_
  obtain ⟨s, Lv, R, po⟩ := h
  have hp := (R.pn d _ (.inr ⟨rfl, rfl⟩)).2.2.2
  refine ⟨.ref d, R.bor i (.ref d) (by show (if i = i then some (V.ref d) else Γ.bor i) = _; rw [if_pos rfl]), d, od, rfl, .inr ⟨kvs, hp, po.ok R ?_⟩⟩
  refine ⟨fun Y2 H2 F al j hj => ?_, fun Y2 H2 F al => ?_, fun Y2 H2 F al j q hq x H3 y => ?_⟩
  · exact (walk_keysT (kvs := kvs)).goes j H2 (by simpa using hj) (al.2.1 d od _ (.inr ⟨rfl, rfl⟩))
  · have := (walk_keysT (d := d) (o := od) (kvs := kvs)).stops H2 (al.2.1 d od _ (.inr ⟨rfl, rfl⟩))
    simpa using this
  · obtain ⟨rfl, k, v, b, e1, rfl, e2⟩ := (walk_keysT (kvs := kvs)).yields j H2 x H3 (by have := (List.getElem?_eq_some_iff.mp hq).1; simpa using this) (al.2.1 d od _ (.inr ⟨rfl, rfl⟩)) y
    refine ⟨Same.refl _, ?_⟩
    rw [List.getElem?_map, e1] at hq
    cases hq
    show Rep Z Y2 H3 (.tup (k.map kD)) (.ref b)
    simp only [Rep]
    exact ⟨b, _, rfl, .inl ⟨fun q => al.2.2 (hn.lk fun xs z => by cases z) b q _ e2, e2⟩, kV_rep k⟩
/-! ### a def whose answer holds no object -/
def flatD : D → Bool
  | .non => true
  | .bl _ => true
  | .int _ => true
  | .str _ => true
  | _ => false
def runPi (n : Nat) (body : S → SR) (ds : List D) : FR := match runP n body ds with
  | .ok (.d d) => if flatD d = true then .ok (.d d) else .st
  | _ => .st
theorem gp_nt {Y : Addr → Prop} {H : Hp} {E : XK} (hY : ∀ a, Y a → H a ≠ none) : (Gp (fun a => Y a ∧ ∀ xs, H a ≠ some (.tup xs)) H E).NT := ⟨rfl, fun a h => by
  cases e : H a with
  | none => exact absurd e (hY a h.1)
  | some o => exact ⟨o, .inl e, fun xs z => h.2 xs (by rw [e, z])⟩⟩
theorem okPi {P : Program} {w : World} {base : Heap} {x qual : Str} {st : Stmt} {f : Addr} {fd : FuncData} {N ps : List Str} {k : Nat} {body : S → SR} (F : Fun Z.K x qual st f fd) (Sc : FnScope N ps (defScope st))
    (hb : ∀ (cdv : Value) (A : Around) (outer : List Env) (s : Shared) (Y : Addr → Prop) (H : Hp) (E : XK), (Gp Y H E).NT → Room k (A.deeper (envOfC qual (defScope st) s.heap.objs.size f cdv)) →
      PSs (cxOf (L2.CX P w) P w Z.K Z.mg base N qual (defScope st) f cdv A outer s H E) (defBody st) (tS Z (Gp Y H E) body)) :
    FnOk P w Z.K Z.mg base (L2.CX P w) (k + 1) f fd ps (spP Z ps.length (runPi N.length body)) := by
  refine F.okX Sc (fun vs H Q E h => h.1) fun cdv A outer s H vs Q E hr h => ?_
  obtain ⟨hl, Y, ds, hY, tb, r, po⟩ := h
  have r' : RepL Z (fun a => Y a ∧ ∀ xs, H a ≠ some (.tup xs)) H ds vs := r.mono (Fw.refl.less fun a h => h.1)
  refine ⟨_, hb cdv A outer s _ H E (gp_nt hY) hr, _, _, rl_start (N := N) (E := E) (fun a h => hY a h.1) tb r', ps_goP (Γ := Gp _ H E) rfl rfl rfl (fun cls d σ H' h => h) ?_⟩
  unfold goP
  unfold runPi at po
  cases e : runP N.length body ds with
  | ok q =>
    rw [e] at po
    cases q with
    | o _ => exact po.elim
    | d d =>
      simp only at po
      by_cases hf : flatD d = true
      · rw [if_pos hf] at po
        intro v H' L kp nd nw rr
        refine po v H' L kp nd nw ⟨rr.1, ?_⟩
        have rr := rr.2
        cases d <;> first | (cases hf; done) | (simp only [Rep] at rr ⊢; exact rr)
      · rw [if_neg hf] at po; exact po.elim
  | er c ns ds => rw [e] at po; exact po.elim
  | st => rw [e] at po; exact po.elim
end
end PD

set_option linter.all false
set_option maxRecDepth 100000
set_option maxHeartbeats 1000000
/-! PD39: the end of a law. -/
namespace PD
open PySem PySem.Spec PyProof.Rows L2
theorem codeHd_mk {K : PySem.W.Frag} {h : Heap} {c P : Addr} {od : Option Addr} {vs : Array Value} {sl : Array (Option Value)} {f : Str} {fl n : Int} {tf : Tok} {tg tt : Nat} {b : Bool} (X : K.In h) (lc : K.lookup c = some ⟨.type "code", od, .fields vs, sl⟩)
    (e11 : (vs[11]? : Option Value) = some (.ref P)) (e18 : vs.getD 18 .none = .str f tf) (e7 : vs.getD 7 .none = .int fl tg) (e9 : vs.getD 9 .none = .bool b) (e10 : vs.getD 10 .none = .int n tt) (hne : c ≠ P) : PySem.W.CodeHd h c P :=
  ⟨_, vs, f, tf, fl, tg, b, n, tt, X _ _ lc, rfl, rfl, e11, by rw [Array.getD_eq_getD_getElem?, e11]; rfl, e18, e7, e9, e10, hne⟩
theorem sp_law {Z : Zt} {g : List D → FR} {ns : List Int} {H : Hp} {a : Addr} (plain : g [.scr ns] = .ok (.d (.bl true))) (ht : ∀ p ∈ Z.T, H p.1 = some (.tbl #[])) (hS : SqL Z.K H a (ns.map V.int)) :
    spP Z 1 g [.ref a] H (fun v _ => v = .bl true) fun _ _ _ => False := by
  refine ⟨rfl, fun _ => False, [.scr ns], fun a h => h.elim, fun p hp => ⟨#[], ht p hp, by simp [TriplesOk], fun pos cv h => ?_⟩, ?_, ?_⟩
  · simp [codeAmong] at h
  · refine RepL.one ?_
    simp only [Rep]
    refine ⟨a, rfl, ?_⟩
    rcases hS with hS | hS
    · exact .inl ⟨fun h => h, hS⟩
    · exact .inr hS
  · rw [plain]
    intro v H' L kp nd nw r
    have r := r.2
    simp only [Rep] at r
    exact r
theorem cx_end {P : Program} {w : World} {H : Hp} {s : Shared} {e : Value} {s' : Shared} (h : L2.CX P w [] H s (fun _ _ _ => False) e s') : False := by
  obtain ⟨_, _, _, _, _, _, _, _, _, _, _, _, z⟩ := h
  exact z
/-- sum of a list or a tuple -/
def gSumT : List D → Option D
  | [.tup ds] => (allInt ds).map fun ns => .int ns.sum
  | ds => gSum ds
theorem od_sumT {X : Cx} {Z : Zt} (hK : X.K = Z.K) (hc : X.calm = true) : CallR X (.builtin "sum") (rD Z gSumT) := by
  intro pins s σ H xs us Q I r h
  obtain ⟨Y, ds, d, hx, hv, hg, q⟩ := h
  unfold gSumT at hg
  split at hg
  · rename_i ls
    obtain ⟨v, rfl, h1⟩ := vwl1 hv rfl
    obtain ⟨a, vs, rfl, ha, rl⟩ := vw_tup h1
    cases e : allInt ls with
    | none => rw [e] at hg; cases hg
    | some ns =>
      rw [e] at hg
      cases hg
      rw [allInt_map rl e] at ha
      obtain ⟨its, rv, hl, hz⟩ := I.tuple (show SqT X.K H a _ by rw [hK]; exact ha)
      rw [Vals.ref1 r]
      have hi := rv.ints
      obtain ⟨xs, ex⟩ := hi.allInts.items
      have hn : numsOf (intItems xs).toList = ns := by rw [← ex]; exact hi.numsOf
      rw [nums_intItems] at hn
      have ht : s.heap.IsTuple a its.toArray := hl
      rw [ex] at ht
      refine PySem.W.ktm_sumG (I.ok.hd hc) ht fun h' tk t' hk => ⟨.int _, H, I.kept hk, ⟨_, rfl⟩, ?_⟩
      have := q (.int ns.sum) H (Same.refl H) rep_int
      rw [preSum_eq, List.take_of_length_le (by simp), hn]
      exact this
  · exact od_sum hc pins s σ H xs us Q I r ⟨Y, ds, d, hx, hv, hg, q⟩
end PD

set_option linter.all false
set_option maxRecDepth 100000
set_option maxHeartbeats 2000000
namespace PD
open PySem PySem.Spec PyProof.Rows L2 LamX NdefX
/-! the text -/
def mth (c : Stmt) (j : Nat) : Stmt := match c with
  | .ClassDef _ _ _ body _ _ _ _ _ _ _ => body.getD j (.Pass ⟨0, 0, 0, 0⟩)
  | _ => .Pass ⟨0, 0, 0, 0⟩
def topS (i : Nat) : Stmt := PySem.Challenge.pw_ropeloft_k13_whole_fewest_coils.main.body.getD i (.Pass ⟨0, 0, 0, 0⟩)
abbrev s_is_whole : Stmt := topS 1
abbrev N_is_whole : List Str := ["value"]
theorem sc_is_whole : FnScope N_is_whole ["value"] (defScope s_is_whole) := ⟨rfl, rfl, rfl, by decide +kernel, rfl, by decide +kernel, by decide +kernel⟩
abbrev s_first_wrong : Stmt := topS 3
abbrev N_first_wrong : List Str := ["value", "least", "most", "judge", "place", "row"]
theorem sc_first_wrong : FnScope N_first_wrong ["value", "least", "most", "judge"] (defScope s_first_wrong) := ⟨rfl, rfl, rfl, by decide +kernel, rfl, by decide +kernel, by decide +kernel⟩
abbrev s_weights_of : Stmt := topS 13
abbrev N_weights_of : List Str := ["pieces", "found", "piece"]
theorem sc_weights_of : FnScope N_weights_of ["pieces"] (defScope s_weights_of) := ⟨rfl, rfl, rfl, by decide +kernel, rfl, by decide +kernel, by decide +kernel⟩
abbrev s__law_taken : Stmt := topS 22
abbrev N__law_taken : List Str := ["row", "many", "found", "cell"]
theorem sc__law_taken : FnScope N__law_taken ["row", "many"] (defScope s__law_taken) := ⟨rfl, rfl, rfl, by decide +kernel, rfl, by decide +kernel, by decide +kernel⟩
abbrev s__law_coils : Stmt := topS 26
abbrev N__law_coils : List Str := ["coil", "pieces", "rows", "piece", "longer", "cuts", "k"]
theorem sc__law_coils : FnScope N__law_coils ["coil", "pieces"] (defScope s__law_coils) := ⟨rfl, rfl, rfl, by decide +kernel, rfl, by decide +kernel, by decide +kernel⟩
abbrev s_is_within : Stmt := topS 2
abbrev N_is_within : List Str := ["value", "least", "most"]
theorem sc_is_within : FnScope N_is_within ["value", "least", "most"] (defScope s_is_within) := ⟨rfl, rfl, rfl, by decide +kernel, rfl, by decide +kernel, by decide +kernel⟩
abbrev s_states : Stmt := topS 14
abbrev N_states : List Str := ["coil", "pieces", "best", "weights", "chosen", "many", "cut", "place", "piece", "told", "wider"]
theorem sc_states : FnScope N_states ["coil", "pieces"] (defScope s_states) := ⟨rfl, rfl, rfl, by decide +kernel, rfl, by decide +kernel, by decide +kernel⟩
abbrev s_last_cut : Stmt := topS 17
abbrev N_last_cut : List Str := ["coil", "pieces", "best", "chosen", "weights", "place", "piece", "many", "cut", "told"]
theorem sc_last_cut : FnScope N_last_cut ["coil", "pieces", "best", "chosen"] (defScope s_last_cut) := ⟨rfl, rfl, rfl, by decide +kernel, rfl, by decide +kernel, by decide +kernel⟩
abbrev s__law_pick : Stmt := topS 23
abbrev N__law_pick : List Str := ["row", "things"]
theorem sc__law_pick : FnScope N__law_pick ["row", "things"] (defScope s__law_pick) := ⟨rfl, rfl, rfl, by decide +kernel, rfl, by decide +kernel, by decide +kernel⟩
abbrev s__law_pieces : Stmt := topS 25
abbrev N__law_pieces : List Str := ["row", "coil", "most", "size", "k"]
theorem sc__law_pieces : FnScope N__law_pieces ["row", "coil", "most"] (defScope s__law_pieces) := ⟨rfl, rfl, rfl, by decide +kernel, rfl, by decide +kernel, by decide +kernel⟩
abbrev s__law_alike : Stmt := topS 24
abbrev N__law_alike : List Str := ["found", "due", "k"]
theorem sc__law_alike : FnScope N__law_alike ["found", "due"] (defScope s__law_alike) := ⟨rfl, rfl, rfl, by decide +kernel, rfl, by decide +kernel, by decide +kernel⟩
abbrev s_require_pieces : Stmt := topS 12
abbrev N_require_pieces : List Str := ["coil", "pieces", "judge", "place"]
theorem sc_require_pieces : FnScope N_require_pieces ["coil", "pieces"] (defScope s_require_pieces) := ⟨rfl, rfl, rfl, by decide +kernel, rfl, by decide +kernel, by decide +kernel⟩
abbrev s_fewest_coils : Stmt := topS 15
abbrev N_fewest_coils : List Str := ["coil", "pieces"]
theorem sc_fewest_coils : FnScope N_fewest_coils ["coil", "pieces"] (defScope s_fewest_coils) := ⟨rfl, rfl, rfl, by decide +kernel, rfl, by decide +kernel, by decide +kernel⟩
abbrev s_cutting : Stmt := topS 16
abbrev N_cutting : List Str := ["coil", "pieces", "best", "weights", "chosen", "rows", "row", "place", "many", "cut"]
theorem sc_cutting : FnScope N_cutting ["coil", "pieces"] (defScope s_cutting) := ⟨rfl, rfl, rfl, by decide +kernel, rfl, by decide +kernel, by decide +kernel⟩
abbrev s_is_cutting : Stmt := topS 18
abbrev N_is_cutting : List Str := ["coil", "pieces", "value", "flat", "row", "place"]
theorem sc_is_cutting : FnScope N_is_cutting ["coil", "pieces", "value"] (defScope s_is_cutting) := ⟨rfl, rfl, rfl, by decide +kernel, rfl, by decide +kernel, by decide +kernel⟩
abbrev s_waste : Stmt := topS 19
abbrev N_waste : List Str := ["coil", "pieces", "value"]
theorem sc_waste : FnScope N_waste ["coil", "pieces", "value"] (defScope s_waste) := ⟨rfl, rfl, rfl, by decide +kernel, rfl, by decide +kernel, by decide +kernel⟩
abbrev s_least_coil : Stmt := topS 20
abbrev N_least_coil : List Str := ["pieces", "many", "coil"]
theorem sc_least_coil : FnScope N_least_coil ["pieces", "many"] (defScope s_least_coil) := ⟨rfl, rfl, rfl, by decide +kernel, rfl, by decide +kernel, by decide +kernel⟩
abbrev s_law : Stmt := topS 27
abbrev N_law : List Str := ["script", "row", "turn", "coil", "pieces", "least", "found", "flat", "one", "many", "can", "k", "size"]
theorem sc_law : FnScope N_law ["script"] (defScope s_law) := ⟨rfl, rfl, rfl, by decide +kernel, rfl, by decide +kernel, by decide +kernel⟩
/-! what the defs give -/
noncomputable def b_is_whole : S → SR := (sRet (eAnd (eUn (gIsi "int") (eV 0)) (eUn gNot (eUn (gIsi "bool") (eV 0)))))
noncomputable def m_is_whole : List D → FR := runP 1 b_is_whole
noncomputable def b_first_wrong (jm : List D → FR) : S → SR := (sSeq (sIf (cOr (cNot (cVal (eUn (gIsi "tuple") (eV 0)))) (cNot (cVal (eChain gLe gLe (eV 1) (eApp gLen (aCons (eV 0) aNil)) (eV 2))))) (sRet (eUn gNeg (eC (.int 1)))) sNil) (sSeq (sFor (gT 2 (gsCons (gN 4) (gsCons (gN 5) gsNil))) (iOf gEnum (aCons (eV 0) aNil)) (sIf (cNot (cVal (eFz (rCall 2 jm (aCons (eV 5) (aCons (eSl (eV 0) none (some (eV 4))) aNil)))))) (sRet (eV 4)) sNil)) (sRet (eC .non))))
noncomputable def b_weights_of : S → SR := (sSeq (sOwn 1 (rLst (aCons (eC (.int 1)) aNil))) (sSeq (sFor (gN 2) (iSeq (eV 0)) (sApp 1 (eBin gMul (eBin gIx2 (eV 1) (eUn gNeg (eC (.int 1)))) (eC (.int 2))))) (sRet (eMv 1))))
noncomputable def m_weights_of : List D → FR := runP 3 b_weights_of
noncomputable def b__law_taken : S → SR := (sSeq (sIf (cVal (eBin gGt (eBin gIx2 (eV 0) (eC (.int 3))) (eC (.int 0)))) (sSeq (sAsg (gN 2) (eBin gMod (eApp gInt (aCons (eBin gIx2 (eV 0) (eC (.int 3))) aNil)) (eV 1))) (sSeq (sAsg (gSet 0 (eC (.int 3))) (eBin gDiv (eBin gIx2 (eV 0) (eC (.int 3))) (eV 1))) (sRet (eV 2)))) sNil) (sSeq (sAsg (gSet 0 (eC (.int 1))) (eBin gAdd (eBin gIx2 (eV 0) (eC (.int 1))) (eC (.int 1)))) (sSeq (sIf (cVal (eBin gGt (eBin gIx2 (eV 0) (eC (.int 1))) (eApp gLen (aCons (eBin gIx2 (eV 0) (eC (.int 0))) aNil)))) (sSeq (sAsg (gSet 0 (eC (.int 2))) (eBin gMod (eApp gInt (aCons (eBin gAdd (eBin gMul (eBin gIx2 (eV 0) (eC (.int 2))) (eC (.int 48271))) (eC (.int 11))) aNil)) (eC (.int 2147483647)))) (sRet (eBin gMod (eApp gInt (aCons (eBin gDiv (eBin gIx2 (eV 0) (eC (.int 2))) (eC (.int 7))) aNil)) (eV 1)))) sNil) (sSeq (sAsg (gN 3) (eBin gIx2 (eBin gIx2 (eV 0) (eC (.int 0))) (eBin gSub (eBin gIx2 (eV 0) (eC (.int 1))) (eC (.int 1))))) (sSeq (sAsg (gSet 0 (eC (.int 2))) (eBin gMod (eApp gInt (aCons (eBin gAdd (eBin gAdd (eBin gMul (eBin gIx2 (eV 0) (eC (.int 2))) (eC (.int 48271))) (eV 3)) (eC (.int 11))) aNil)) (eC (.int 2147483647)))) (sSeq (sIf (cVal (eBin gGe (eV 3) (eBin gPow (eC (.int 10)) (eC (.int 18))))) (sSeq (sAsg (gSet 0 (eC (.int 3))) (eBin gDiv (eV 3) (eV 1))) (sRet (eBin gMod (eApp gInt (aCons (eV 3) aNil)) (eV 1)))) sNil) (sRet (eBin gMod (eApp gInt (aCons (eBin gAdd (eBin gMul (eBin gMod (eApp gInt (aCons (eV 3) aNil)) (eC (.int 1000003))) (eC (.int 31))) (eBin gDiv (eBin gIx2 (eV 0) (eC (.int 2))) (eC (.int 11)))) aNil)) (eV 1)))))))))
noncomputable def m__law_taken : O → List D → FB := runB 4 b__law_taken
noncomputable def b__law_coils : S → SR := (sSeq (sOwn 2 (rDispT kUnit (eC (.bl true)))) (sSeq (sFor (gN 3) (iSeq (eUn gRev (eApp gSorted (aCons (eV 1) aNil)))) (sSeq (sOwn 4 rDicT) (sSeq (sLock 2 fun kl2 => sFor (gN 5) (iKl kl2) (sSeq (sFor (gN 6) (iOf gRng1 (aCons (eApp gLen (aCons (eV 5) aNil)) aNil)) (sIf (cVal (eBin gLe (eBin gAdd (eBin gIx2 (eV 5) (eV 6)) (eV 3)) (eV 0))) (sAsg (gSetT 4 (kTup (eApp gSorted (aCons (eBin gAdd (eBin gAdd (eSl (eV 5) none (some (eV 6))) (eTup (aCons (eBin gAdd (eBin gIx2 (eV 5) (eV 6)) (eV 3)) aNil))) (eSl (eV 5) (some (eBin gAdd (eV 6) (eC (.int 1)))) none)) aNil)))) (eC (.bl true))) sNil)) (sAsg (gSetT 4 (kTup (eApp gSorted (aCons (eBin gAdd (eV 5) (eTup (aCons (eV 3) aNil))) aNil)))) (eC (.bl true))))) (sOwn 2 (rMv 4))))) (sRet (eApp gMinL (aCons (eLock 2 fun kl2 => (eLcD [5] (gN 5) (iKl kl2) tYesD (eApp gLen (aCons (eV 5) aNil)))) aNil)))))
noncomputable def m__law_coils : List D → FR := runPi 7 b__law_coils
noncomputable def b_is_within : S → SR := (sRet (eAnd (eFz (rCall 1 m_is_whole (aCons (eV 0) aNil))) (eChain gLe gLe (eV 1) (eV 0) (eV 2))))
noncomputable def m_is_within : List D → FR := runP 3 b_is_within
noncomputable def b_states : S → SR := (sSeq (sPar2 2 3 (rCons (rDisp (kCons (eC (.int 0)) (eTup (aCons (eC (.int 0)) (aCons (eV 0) aNil))) kNil)) (rCons (rDat (eFz (rCall 1 m_weights_of (aCons (eV 1) aNil)))) rNil))) (sSeq (sFor (gN 4) (iOf gRng1 (aCons (eBin gIx2 (eV 3) (eUn gNeg (eC (.int 1)))) aNil)) (sSeq (sAsg (gT 2 (gsCons (gN 5) (gsCons (gN 6) gsNil))) (eBin gIx2 (eV 2) (eV 4))) (sFor (gT 2 (gsCons (gN 7) (gsCons (gN 8) gsNil))) (iOf gEnum (aCons (eV 1) aNil)) (sIf (cVal (eBin gEq (eBin gMod (eBin gDiv (eV 4) (eBin gIx2 (eV 3) (eV 7))) (eC (.int 2))) (eC (.int 0)))) (sSeq (sAsg (gN 9) (eIf (cVal (eBin gLe (eBin gAdd (eV 6) (eV 8)) (eV 0))) (eTup (aCons (eV 5) (aCons (eBin gAdd (eV 6) (eV 8)) aNil))) (eTup (aCons (eBin gAdd (eV 5) (eC (.int 1))) (aCons (eV 8) aNil))))) (sSeq (sAsg (gN 10) (eBin gAdd (eV 4) (eBin gIx2 (eV 3) (eV 7)))) (sIf (cOr (cVal (eBin gNotIn2 (eV 10) (eV 2))) (cVal (eBin gLt (eV 9) (eBin gIx2 (eV 2) (eV 10))))) (sAsg (gSet 2 (eV 10)) (eV 9)) sNil))) sNil)))) (sRet (eMv 2))))
noncomputable def m_states : List D → FR := runP 11 b_states
noncomputable def b_last_cut : S → SR := (sSeq (sAsg (gN 4) (eFz (rCall 1 m_weights_of (aCons (eV 1) aNil)))) (sSeq (sFor (gT 2 (gsCons (gN 5) (gsCons (gN 6) gsNil))) (iOf gEnum (aCons (eV 1) aNil)) (sIf (cVal (eBin gEq (eBin gMod (eBin gDiv (eV 3) (eBin gIx2 (eV 4) (eV 5))) (eC (.int 2))) (eC (.int 1)))) (sSeq (sAsg (gT 2 (gsCons (gN 7) (gsCons (gN 8) gsNil))) (eBin gIx2 (eV 2) (eBin gSub (eV 3) (eBin gIx2 (eV 4) (eV 5))))) (sSeq (sAsg (gN 9) (eIf (cVal (eBin gLe (eBin gAdd (eV 8) (eV 6)) (eV 0))) (eTup (aCons (eV 7) (aCons (eBin gAdd (eV 8) (eV 6)) aNil))) (eTup (aCons (eBin gAdd (eV 7) (eC (.int 1))) (aCons (eV 6) aNil))))) (sIf (cVal (eBin gEq (eV 9) (eBin gIx2 (eV 2) (eV 3)))) (sRet (eV 5)) sNil))) sNil)) (sRet (eC .non))))
noncomputable def m_last_cut : List D → FR := runP 10 b_last_cut
noncomputable def b__law_pick : S → SR := (sRet (eBin gIx2 (eV 1) (eFz (rCallB 1 0 m__law_taken (aCons (eApp gLen (aCons (eV 1) aNil)) aNil)))))
noncomputable def m__law_pick : O → List D → FB := runB 2 b__law_pick
noncomputable def b__law_pieces : S → SR := (sSeq (sAsg (gN 3) (eFz (rCallB 1 0 m__law_pick (aCons (eLst (aCons (eV 1) (aCons (eApp gMax (aCons (eC (.int 1)) (aCons (eBin gDiv (eV 1) (eC (.int 2))) aNil))) (aCons (eApp gMax (aCons (eC (.int 1)) (aCons (eBin gAdd (eBin gDiv (eV 1) (eC (.int 3))) (eC (.int 1))) aNil))) aNil)))) aNil)))) (sRet (eApp gTuple (aCons (eLcD [4] (gN 4) (iOf gRng1 (aCons (eFz (rCallB 1 0 m__law_taken (aCons (eBin gAdd (eV 2) (eC (.int 1))) aNil))) aNil)) tYesD (eBin gAdd (eC (.int 1)) (eFz (rCallB 1 0 m__law_taken (aCons (eV 3) aNil))))) aNil))))
noncomputable def m__law_pieces : O → List D → FB := runB 5 b__law_pieces
noncomputable def b__law_alike (g : List D → FR) : S → SR := (sSeq (sIf (cVal (eUn (gIsi2 "tuple" "list") (eV 1))) (sSeq (sIf (cOr (cNot (cVal (eUn (gIsi2 "tuple" "list") (eV 0)))) (cVal (eBin gNe (eUn (gIsi "list") (eV 0)) (eUn (gIsi "list") (eV 1))))) (sRet (eC (.bl false))) sNil) (sSeq (sIf (cVal (eBin gNe (eApp gLen (aCons (eV 0) aNil)) (eApp gLen (aCons (eV 1) aNil)))) (sRet (eC (.bl false))) sNil) (sRet (eBin gEq (eLcD [2] (gN 2) (iOf gRng1 (aCons (eApp gLen (aCons (eV 1) aNil)) aNil)) (cNot (cVal (eFz (rCall 2 g (aCons (eBin gIx2 (eV 0) (eV 2)) (aCons (eBin gIx2 (eV 1) (eV 2)) aNil)))))) (eV 2)) (eLst aNil))))) sNil) (sSeq (sIf (cOr (cVal (eBin gIsN (eV 1) (eC .non))) (cVal (eUn (gIsi "str") (eV 1)))) (sRet (eAnd (eBin gEq (eV 0) (eV 1)) (eBin gEq (eUn (gIsi "str") (eV 0)) (eUn (gIsi "str") (eV 1))))) sNil) (sRet (eAnd (eUn (gIsi "int") (eV 0)) (eAnd (eBin gEq (eUn (gIsi "bool") (eV 0)) (eUn (gIsi "bool") (eV 1))) (eBin gEq (eV 0) (eV 1)))))))
noncomputable def m__law_alike : Nat → List D → FR
  | 0 => fun _ => .st
  | d + 1 => runP 3 (b__law_alike (m__law_alike d))
noncomputable def b_require_pieces : S → SR := (sSeq (sIf (cNot (cVal (eFz (rCall 3 m_is_within (aCons (eV 0) (aCons (eC (.int 1)) (aCons (eC (.int 99)) aNil))))))) sNever sNil) (sSeq (sUn 2) (sSeq (sAsg (gN 3) (eFz (rCallJ 3 2 [0] (fun jm => runP 6 (b_first_wrong jm)) (runE 3 (eFz (rCall 3 m_is_within (aCons (eV 0) (aCons (eC (.int 1)) (aCons (eV 2) aNil)))))) (aCons (eV 1) (aCons (eC (.int 0)) (aCons (eC (.int 10)) (aCons (eVJ 2) aNil))))))) (sIf (cVal (eBin gNotN (eV 3) (eC .non))) sNever sNil))))
noncomputable def m_require_pieces : List D → FR := runP 4 b_require_pieces
noncomputable def b_fewest_coils : S → SR := (sSeq (sDrop (eFz (rCall 2 m_require_pieces (aCons (eV 0) (aCons (eV 1) aNil))))) (sRet (eBin gIx2 (eBin gIx2 (eFz (rCall 2 m_states (aCons (eV 0) (aCons (eV 1) aNil)))) (eBin gSub (eBin gIx2 (eFz (rCall 1 m_weights_of (aCons (eV 1) aNil))) (eUn gNeg (eC (.int 1)))) (eC (.int 1)))) (eC (.int 0)))))
noncomputable def m_fewest_coils : List D → FR := runP 2 b_fewest_coils
noncomputable def b_cutting : S → SR := (sSeq (sDrop (eFz (rCall 2 m_require_pieces (aCons (eV 0) (aCons (eV 1) aNil))))) (sSeq (sPar2 2 3 (rCons (rDat (eFz (rCall 2 m_states (aCons (eV 0) (aCons (eV 1) aNil))))) (rCons (rDat (eFz (rCall 1 m_weights_of (aCons (eV 1) aNil)))) rNil))) (sSeq (sPar3 4 5 6 (rCons (rDat (eBin gSub (eBin gIx2 (eV 3) (eUn gNeg (eC (.int 1)))) (eC (.int 1)))) (rCons (rLst aNil) (rCons (rLst aNil) rNil)))) (sSeq (sWhile (cVal (eBin gGt (eV 4) (eC (.int 0)))) (sSeq (sAsg (gN 7) (eFz (rCall 4 m_last_cut (aCons (eV 0) (aCons (eV 1) (aCons (eV 2) (aCons (eV 4) aNil))))))) (sSeq (sApp 6 (eV 7)) (sSeq (sAug 4 iSub (eBin gIx2 (eV 3) (eV 7))) (sSeq (sAsg (gT 2 (gsCons (gN 8) (gsCons (gN 9) gsNil))) (eBin gIx2 (eV 2) (eV 4))) (sIf (cVal (eBin gGt (eBin gAdd (eV 9) (eBin gIx2 (eV 1) (eV 7))) (eV 0))) (sSeq (sApp 5 (eApp gTuple (aCons (eApp gSorted (aCons (eV 6) aNil)) aNil))) (sOwn 6 (rLst aNil))) sNil)))))) (sRet (eApp gTuple (aCons (eApp gSorted (aCons (eV 5) aNil)) aNil)))))))
noncomputable def m_cutting : List D → FR := runP 10 b_cutting
noncomputable def b_is_cutting : S → SR := (sSeq (sDrop (eFz (rCall 2 m_require_pieces (aCons (eV 0) (aCons (eV 1) aNil))))) (sSeq (sIf (cOr (cNot (cVal (eUn (gIsi "tuple") (eV 2)))) (cNot (cVal (eApp gAll (aCons (eLcD [4] (gN 4) (iSeq (eV 2)) tYesD (eAnd (eUn (gIsi "tuple") (eV 4)) (eBin gNe (eV 4) (eTup aNil)))) aNil))))) (sRet (eC (.bl false))) sNil) (sSeq (sAsg (gN 3) (eLc2D [4, 5] [5] (gN 4) (iSeq (eV 2)) tYesD (iSeq (eV 4)) (gN 5) tYesD (eV 5))) (sSeq (sIf (cOr (cNot (cVal (eApp gAll (aCons (eLcD [5] (gN 5) (iSeq (eV 3)) tYesD (eFz (rCall 1 m_is_whole (aCons (eV 5) aNil)))) aNil)))) (cVal (eBin gNe (eApp gSorted (aCons (eV 3) aNil)) (eUn gLRg1 (eApp gLen (aCons (eV 1) aNil)))))) (sRet (eC (.bl false))) sNil) (sSeq (sIf (cOr (cVal (eBin gNe (eApp gList (aCons (eV 2) aNil)) (eApp gSorted (aCons (eV 2) aNil)))) (cNot (cVal (eApp gAll (aCons (eLcD [4] (gN 4) (iSeq (eV 2)) tYesD (eBin gEq (eApp gList (aCons (eV 4) aNil)) (eApp gSorted (aCons (eV 4) aNil)))) aNil))))) (sRet (eC (.bl false))) sNil) (sRet (eApp gAll (aCons (eLcD [4] (gN 4) (iSeq (eV 2)) tYesD (eBin gLe (eApp gSumT (aCons (eLcD [5] (gN 5) (iSeq (eV 4)) tYesD (eBin gIx2 (eV 1) (eV 5))) aNil)) (eV 0))) aNil))))))))
noncomputable def m_is_cutting : List D → FR := runP 6 b_is_cutting
noncomputable def b_waste : S → SR := (sRet (eIf (cVal (eFz (rCall 3 m_is_cutting (aCons (eV 0) (aCons (eV 1) (aCons (eV 2) aNil)))))) (eBin gSub (eBin gMul (eApp gLen (aCons (eV 2) aNil)) (eV 0)) (eApp gSumT (aCons (eV 1) aNil))) (eC .non)))
noncomputable def m_waste : List D → FR := runP 3 b_waste
noncomputable def b_least_coil : S → SR := (sSeq (sDrop (eFz (rCall 2 m_require_pieces (aCons (eC (.int 99)) (aCons (eV 0) aNil))))) (sSeq (sIf (cNot (cVal (eFz (rCall 3 m_is_within (aCons (eV 1) (aCons (eC (.int 0)) (aCons (eC (.int 10)) aNil))))))) sNever sNil) (sSeq (sFor (gN 2) (iOf gRng2 (aCons (eBin gMaxD (eV 0) (eC (.int 1))) (aCons (eBin gAdd (eC (.int 99)) (eC (.int 1))) aNil))) (sIf (cVal (eBin gLe (eFz (rCall 2 m_fewest_coils (aCons (eV 2) (aCons (eV 0) aNil)))) (eV 1))) (sRet (eV 2)) sNil)) (sRet (eC .non)))))
noncomputable def m_least_coil : List D → FR := runP 3 b_least_coil
noncomputable def b_law : S → SR := (sSeq (sOwn 1 (rLst (aCons (eV 0) (aCons (eC (.int 0)) (aCons (eC (.int 6131)) (aCons (eC (.int 0)) aNil)))))) (sSeq (sFor (gN 2) (iOf gRng1 (aCons (eC (.int 4)) aNil)) (sSeq (sAsg (gN 3) (eBin gAdd (eC (.int 1)) (eFz (rCallB 1 1 m__law_taken (aCons (eFz (rCallB 1 1 m__law_pick (aCons (eLst (aCons (eC (.int 9)) (aCons (eC (.int 30)) (aCons (eC (.int 99)) aNil)))) aNil))) aNil))))) (sSeq (sAsg (gN 4) (eFz (rCallB 2 1 m__law_pieces (aCons (eV 3) (aCons (eFz (rCallB 1 1 m__law_pick (aCons (eLst (aCons (eC (.int 4)) (aCons (eC (.int 7)) (aCons (eC (.int 9)) (aCons (eC (.int 10)) aNil))))) aNil))) aNil))))) (sSeq (sPar2 5 6 (rCons (rDat (eFz (rCall 2 m__law_coils (aCons (eV 3) (aCons (eV 4) aNil))))) (rCons (rDat (eFz (rCall 2 m_cutting (aCons (eV 3) (aCons (eV 4) aNil))))) rNil))) (sSeq (sIf (cOr (cNot (cVal (eFz (rCall 2 (m__law_alike 3) (aCons (eFz (rCall 2 m_fewest_coils (aCons (eV 3) (aCons (eV 4) aNil)))) (aCons (eV 5) aNil)))))) (cOr (cNot (cVal (eUn (gIsi "tuple") (eV 6)))) (cOr (cVal (eBin gNe (eApp gLen (aCons (eV 6) aNil)) (eV 5))) (cVal (eBin gNe (eApp gList (aCons (eV 6) aNil)) (eApp gSorted (aCons (eV 6) aNil))))))) (sRet (eC (.bl false))) sNil) (sSeq (sOwn 7 (rLst aNil)) (sSeq (sFor (gN 8) (iSeq (eV 6)) (sSeq (sIf (cOr (cVal (eBin gEq (eV 8) (eTup aNil))) (cOr (cVal (eBin gNe (eApp gList (aCons (eV 8) aNil)) (eApp gSorted (aCons (eV 8) aNil)))) (cVal (eBin gGt (eApp gSumT (aCons (eLcD [11] (gN 11) (iSeq (eV 8)) tYesD (eBin gIx2 (eV 4) (eV 11))) aNil)) (eV 3))))) (sRet (eC (.bl false))) sNil) (sExt 7 (eApp gList (aCons (eV 8) aNil))))) (sSeq (sIf (cOr (cVal (eBin gNe (eApp gSorted (aCons (eV 7) aNil)) (eUn gLRg1 (eApp gLen (aCons (eV 4) aNil))))) (cVal (eBin gNotB (eFz (rCall 3 m_is_cutting (aCons (eV 3) (aCons (eV 4) (aCons (eV 6) aNil))))) (eC (.bl true))))) (sRet (eC (.bl false))) sNil) (sIf (cNot (cVal (eFz (rCall 2 (m__law_alike 3) (aCons (eFz (rCall 3 m_waste (aCons (eV 3) (aCons (eV 4) (aCons (eV 6) aNil))))) (aCons (eBin gSub (eBin gMul (eV 5) (eV 3)) (eApp gSumT (aCons (eV 4) aNil))) aNil)))))) (sRet (eC (.bl false))) sNil))))))))) (sSeq (sParT [4, 9] (rCons (rDat (eFz (rCallB 2 1 m__law_pieces (aCons (eC (.int 12)) (aCons (eC (.int 6)) aNil))))) (rCons (rDat (eFz (rCallB 1 1 m__law_taken (aCons (eC (.int 5)) aNil)))) rNil))) (sSeq (sAsg (gN 10) (eIf (cOr (cVal (eBin gGt (eV 9) (eC (.int 0)))) (cVal (eBin gEq (eV 4) (eTup aNil)))) (eLcD [12] (gN 12) (iOf gRng2 (aCons (eApp gMaxT (aCons (eBin gAdd (eTup (aCons (eC (.int 1)) aNil)) (eV 4)) aNil)) (aCons (eC (.int 100)) aNil))) (cVal (eBin gLe (eFz (rCall 2 m__law_coils (aCons (eV 12) (aCons (eV 4) aNil)))) (eV 9))) (eV 12)) (eLst aNil))) (sRet (eFz (rCall 2 (m__law_alike 3) (aCons (eFz (rCall 2 m_least_coil (aCons (eV 4) (aCons (eV 9) aNil)))) (aCons (eIf (cVal (eBin gNe (eV 10) (eLst aNil))) (eBin gIx2 (eV 10) (eC (.int 0))) (eC .non)) aNil)))))))))
noncomputable def m_law : List D → FR := runP 13 b_law
/-! what the top has left -/
structure Top (Z : Zt) (base : Heap) where
  z_all : Z.mg "all" = none
  z_bool : Z.mg "bool" = none
  z_enumerate : Z.mg "enumerate" = none
  z_int : Z.mg "int" = none
  z_isinstance : Z.mg "isinstance" = none
  z_len : Z.mg "len" = none
  z_list : Z.mg "list" = none
  z_max : Z.mg "max" = none
  z_min : Z.mg "min" = none
  z_range : Z.mg "range" = none
  z_sorted : Z.mg "sorted" = none
  z_str : Z.mg "str" = none
  z_sum : Z.mg "sum" = none
  z_tuple : Z.mg "tuple" = none
  t_MOST_COIL : Tok
  c_MOST_COIL : Z.mg "MOST_COIL" = some (.int 99 t_MOST_COIL)
  t_MOST_PIECES : Tok
  c_MOST_PIECES : Z.mg "MOST_PIECES" = some (.int 10 t_MOST_PIECES)
  a_is_whole : Addr
  d_is_whole : FuncData
  F_is_whole : Fun Z.K "is_whole" "is_whole" s_is_whole a_is_whole d_is_whole
  b_is_whole : Binds Z.K d_is_whole ["value"] []
  g_is_whole : Z.mg "is_whole" = some (.ref a_is_whole)
  a_first_wrong : Addr
  d_first_wrong : FuncData
  F_first_wrong : Fun Z.K "first_wrong" "first_wrong" s_first_wrong a_first_wrong d_first_wrong
  b_first_wrong : Binds Z.K d_first_wrong ["value", "least", "most", "judge"] []
  g_first_wrong : Z.mg "first_wrong" = some (.ref a_first_wrong)
  a_weights_of : Addr
  d_weights_of : FuncData
  F_weights_of : Fun Z.K "weights_of" "weights_of" s_weights_of a_weights_of d_weights_of
  b_weights_of : Binds Z.K d_weights_of ["pieces"] []
  g_weights_of : Z.mg "weights_of" = some (.ref a_weights_of)
  a__law_taken : Addr
  d__law_taken : FuncData
  F__law_taken : Fun Z.K "_law_taken" "_law_taken" s__law_taken a__law_taken d__law_taken
  b__law_taken : Binds Z.K d__law_taken ["row", "many"] []
  g__law_taken : Z.mg "_law_taken" = some (.ref a__law_taken)
  a__law_coils : Addr
  d__law_coils : FuncData
  F__law_coils : Fun Z.K "_law_coils" "_law_coils" s__law_coils a__law_coils d__law_coils
  b__law_coils : Binds Z.K d__law_coils ["coil", "pieces"] []
  g__law_coils : Z.mg "_law_coils" = some (.ref a__law_coils)
  a_is_within : Addr
  d_is_within : FuncData
  F_is_within : Fun Z.K "is_within" "is_within" s_is_within a_is_within d_is_within
  b_is_within : Binds Z.K d_is_within ["value", "least", "most"] []
  g_is_within : Z.mg "is_within" = some (.ref a_is_within)
  a_states : Addr
  d_states : FuncData
  F_states : Fun Z.K "states" "states" s_states a_states d_states
  b_states : Binds Z.K d_states ["coil", "pieces"] []
  g_states : Z.mg "states" = some (.ref a_states)
  a_last_cut : Addr
  d_last_cut : FuncData
  F_last_cut : Fun Z.K "last_cut" "last_cut" s_last_cut a_last_cut d_last_cut
  b_last_cut : Binds Z.K d_last_cut ["coil", "pieces", "best", "chosen"] []
  g_last_cut : Z.mg "last_cut" = some (.ref a_last_cut)
  a__law_pick : Addr
  d__law_pick : FuncData
  F__law_pick : Fun Z.K "_law_pick" "_law_pick" s__law_pick a__law_pick d__law_pick
  b__law_pick : Binds Z.K d__law_pick ["row", "things"] []
  g__law_pick : Z.mg "_law_pick" = some (.ref a__law_pick)
  a__law_pieces : Addr
  d__law_pieces : FuncData
  F__law_pieces : Fun Z.K "_law_pieces" "_law_pieces" s__law_pieces a__law_pieces d__law_pieces
  b__law_pieces : Binds Z.K d__law_pieces ["row", "coil", "most"] []
  g__law_pieces : Z.mg "_law_pieces" = some (.ref a__law_pieces)
  a__law_alike : Addr
  d__law_alike : FuncData
  F__law_alike : Fun Z.K "_law_alike" "_law_alike" s__law_alike a__law_alike d__law_alike
  b__law_alike : Binds Z.K d__law_alike ["found", "due"] []
  g__law_alike : Z.mg "_law_alike" = some (.ref a__law_alike)
  a_require_pieces : Addr
  d_require_pieces : FuncData
  F_require_pieces : Fun Z.K "require_pieces" "require_pieces" s_require_pieces a_require_pieces d_require_pieces
  b_require_pieces : Binds Z.K d_require_pieces ["coil", "pieces"] []
  g_require_pieces : Z.mg "require_pieces" = some (.ref a_require_pieces)
  c_require_pieces : Addr
  P_require_pieces : Addr
  h_require_pieces : d_require_pieces.code = .ref c_require_pieces
  tb_require_pieces : LamX.TabB base Z.mg c_require_pieces P_require_pieces
  m_require_pieces : (P_require_pieces, (envOfC "require_pieces" (defScope s_require_pieces) 0 0 .none).qual ++ "<lambda>") ∈ Z.T
  u_require_pieces : ∀ p ∈ Z.T, p.1 = P_require_pieces → p.2 = (envOfC "require_pieces" (defScope s_require_pieces) 0 0 .none).qual ++ "<lambda>"
  a_fewest_coils : Addr
  d_fewest_coils : FuncData
  F_fewest_coils : Fun Z.K "fewest_coils" "fewest_coils" s_fewest_coils a_fewest_coils d_fewest_coils
  b_fewest_coils : Binds Z.K d_fewest_coils ["coil", "pieces"] []
  g_fewest_coils : Z.mg "fewest_coils" = some (.ref a_fewest_coils)
  a_cutting : Addr
  d_cutting : FuncData
  F_cutting : Fun Z.K "cutting" "cutting" s_cutting a_cutting d_cutting
  b_cutting : Binds Z.K d_cutting ["coil", "pieces"] []
  g_cutting : Z.mg "cutting" = some (.ref a_cutting)
  a_is_cutting : Addr
  d_is_cutting : FuncData
  F_is_cutting : Fun Z.K "is_cutting" "is_cutting" s_is_cutting a_is_cutting d_is_cutting
  b_is_cutting : Binds Z.K d_is_cutting ["coil", "pieces", "value"] []
  g_is_cutting : Z.mg "is_cutting" = some (.ref a_is_cutting)
  a_waste : Addr
  d_waste : FuncData
  F_waste : Fun Z.K "waste" "waste" s_waste a_waste d_waste
  b_waste : Binds Z.K d_waste ["coil", "pieces", "value"] []
  g_waste : Z.mg "waste" = some (.ref a_waste)
  a_least_coil : Addr
  d_least_coil : FuncData
  F_least_coil : Fun Z.K "least_coil" "least_coil" s_least_coil a_least_coil d_least_coil
  b_least_coil : Binds Z.K d_least_coil ["pieces", "many"] []
  g_least_coil : Z.mg "least_coil" = some (.ref a_least_coil)
  a_law : Addr
  d_law : FuncData
  F_law : Fun Z.K "law" "law" s_law a_law d_law
  b_law : Binds Z.K d_law ["script"] []
  g_law : Z.mg "law" = some (.ref a_law)
section
variable {P : Program} {w : World} {Z : Zt} {base : Heap}
theorem ok_is_whole (T : Top Z base) : FnOk P w Z.K Z.mg base (L2.CX P w) 1 T.a_is_whole T.d_is_whole ["value"] (spP Z 1 m_is_whole) := okP (N := N_is_whole) T.F_is_whole sc_is_whole fun cdv A outer s Y H E hr => by
  have px : PX (cxOf (L2.CX P w) P w Z.K Z.mg base N_is_whole "is_whole" (defScope s_is_whole) T.a_is_whole cdv A outer s H E) (Gp Y H E) := px_of (takes_of rfl rfl rfl rfl)
  have hpo : PassesOwn (model P w) (cxOf (L2.CX P w) P w Z.K Z.mg base N_is_whole "is_whole" (defScope s_is_whole) T.a_is_whole cdv A outer s H E).A (cxOf (L2.CX P w) P w Z.K Z.mg base N_is_whole "is_whole" (defScope s_is_whole) T.a_is_whole cdv A outer s H E).env (cxOf (L2.CX P w) P w Z.K Z.mg base N_is_whole "is_whole" (defScope s_is_whole) T.a_is_whole cdv A outer s H E).xe := passes_of rfl
  have hu64 := hr.units
  have hu65 := room65 hr
  have hu80 := room80 hr
  have hu1 := room1 hr
  exact (dss_one (ds_ret (de_and (de_isi rfl (by rfl) T.z_isinstance (by rfl) T.z_int (by decide +kernel) (de_v 0)) (de_one (de_not (de_isi rfl (by rfl) T.z_isinstance (by rfl) T.z_bool (by decide +kernel) (de_v 0)))))))
theorem bd_first_wrong (T : Top Z base) {cdv : Value} {A : Around} {outer : List Env} {s : Shared} {H : Hp} {Y : Addr → Prop} {f : Addr} {pin : Addr → HO → Prop} {jm : List D → FR} {k : Nat} (hr : Room (k + 1) (A.deeper (envOfC "first_wrong" (defScope s_first_wrong) s.heap.objs.size T.a_first_wrong cdv))) (hJ : JudgeOk (cxOf (L2.CX P w) P w Z.K Z.mg base N_first_wrong "first_wrong" (defScope s_first_wrong) T.a_first_wrong cdv A outer s H NoE) Z (Gz Y H f 3 pin) "judge" 2 jm) :
    PSs (cxOf (L2.CX P w) P w Z.K Z.mg base N_first_wrong "first_wrong" (defScope s_first_wrong) T.a_first_wrong cdv A outer s H NoE) (defBody s_first_wrong) (tS Z (Gz Y H f 3 pin) (b_first_wrong jm)) := by
  have hpo : PassesOwn (model P w) (cxOf (L2.CX P w) P w Z.K Z.mg base N_first_wrong "first_wrong" (defScope s_first_wrong) T.a_first_wrong cdv A outer s H NoE).A (cxOf (L2.CX P w) P w Z.K Z.mg base N_first_wrong "first_wrong" (defScope s_first_wrong) T.a_first_wrong cdv A outer s H NoE).env (cxOf (L2.CX P w) P w Z.K Z.mg base N_first_wrong "first_wrong" (defScope s_first_wrong) T.a_first_wrong cdv A outer s H NoE).xe := passes_of rfl
  have hu64 := hr.units
  have hu65 := room65 hr
  have hu80 := room80 hr
  have hu1 := room1 hr
  exact (dss_cons (ds_if (dt_bool (dw_or (dt_not (dt_val (de_isi rfl (by rfl) T.z_isinstance (by rfl) T.z_tuple (by decide +kernel) (de_v 0)))) (dw_or1 (dt_not (dt_chain bl_le od_le od_le (de_v 1) (de_callB (od_len rfl) (by rfl) T.z_len (by decide +kernel) (da_cons (de_v 0) da_nil)) (de_v 2)))))) (dss_one (ds_ret (de_un od_neg de_int))) dss_nil) (dss_cons (ds_for hpo rfl (di_enum rfl (by rfl) T.z_enumerate (da_cons (de_v 0) da_nil)) (dg_t rfl rfl (dgs_cons (dg_n (i := 4) sc_first_wrong.nd) (dgs_cons (dg_n (i := 5) sc_first_wrong.nd) dgs_nil))) (dss_one (ds_if (dt_not (dt_val (hJ _ _ _ _ _ (da_cons (de_v 5) (da_cons (de_sl rfl (de_v 0) do_none (do_some (de_v 4))) da_nil)) rfl rfl))) (dss_one (ds_ret (de_v 4))) dss_nil))) (dss_one (ds_ret de_non))))
theorem ok_weights_of (T : Top Z base) : FnOk P w Z.K Z.mg base (L2.CX P w) 1 T.a_weights_of T.d_weights_of ["pieces"] (spP Z 1 m_weights_of) := okP (N := N_weights_of) T.F_weights_of sc_weights_of fun cdv A outer s Y H E hr => by
  have px : PX (cxOf (L2.CX P w) P w Z.K Z.mg base N_weights_of "weights_of" (defScope s_weights_of) T.a_weights_of cdv A outer s H E) (Gp Y H E) := px_of (takes_of rfl rfl rfl rfl)
  have hpo : PassesOwn (model P w) (cxOf (L2.CX P w) P w Z.K Z.mg base N_weights_of "weights_of" (defScope s_weights_of) T.a_weights_of cdv A outer s H E).A (cxOf (L2.CX P w) P w Z.K Z.mg base N_weights_of "weights_of" (defScope s_weights_of) T.a_weights_of cdv A outer s H E).env (cxOf (L2.CX P w) P w Z.K Z.mg base N_weights_of "weights_of" (defScope s_weights_of) T.a_weights_of cdv A outer s H E).xe := passes_of rfl
  have hu64 := hr.units
  have hu65 := room65 hr
  have hu80 := room80 hr
  have hu1 := room1 hr
  exact (dss_cons (ds_own 1 (dr_lst (da_cons de_int da_nil)) sc_weights_of.nd) (dss_cons (ds_for hpo rfl (di_seq rfl (de_v 0)) (dg_n (i := 2) sc_weights_of.nd) (dss_one (ds_app 1 (de_bin od_mul (de_ix (od_ix2 rfl hu1) (de_v 1) (de_un od_neg de_int)) de_int)))) (dss_one (ds_ret (de_mv 1)))))
theorem ok__law_taken (T : Top Z base) : FnOk P w Z.K Z.mg base (L2.CX P w) 1 T.a__law_taken T.d__law_taken ["row", "many"] (spB Z 1 m__law_taken) := okB (N := N__law_taken) T.F__law_taken sc__law_taken rfl fun cdv A outer s Y H B v0 E hr => by
  have px : PX (cxOf (L2.CX P w) P w Z.K Z.mg base N__law_taken "_law_taken" (defScope s__law_taken) T.a__law_taken cdv A outer s H E) (GpB Y H B v0 E) := px_of (takes_of rfl rfl rfl rfl)
  have hpo : PassesOwn (model P w) (cxOf (L2.CX P w) P w Z.K Z.mg base N__law_taken "_law_taken" (defScope s__law_taken) T.a__law_taken cdv A outer s H E).A (cxOf (L2.CX P w) P w Z.K Z.mg base N__law_taken "_law_taken" (defScope s__law_taken) T.a__law_taken cdv A outer s H E).env (cxOf (L2.CX P w) P w Z.K Z.mg base N__law_taken "_law_taken" (defScope s__law_taken) T.a__law_taken cdv A outer s H E).xe := passes_of rfl
  have hu64 := hr.units
  have hu65 := room65 hr
  have hu80 := room80 hr
  have hu1 := room1 hr
  exact (dss_cons (ds_if (dt_cmp bl_gt od_gt (de_ix (od_ix2 rfl hu1) (de_v 0) de_int) de_int) (dss_cons (ds_asg (de_bin od_mod (de_callT od_int (by rfl) T.z_int (by decide +kernel) (da_cons (de_ix (od_ix2 rfl hu1) (de_v 0) de_int) da_nil)) (de_v 1)) (dg_n (i := 2) sc__law_taken.nd)) (dss_cons (ds_asg (de_bin od_div (de_ix (od_ix2 rfl hu1) (de_v 0) de_int) (de_v 1)) (dg_set 0 hu1 de_int)) (dss_one (ds_ret (de_v 2))))) dss_nil) (dss_cons (ds_asg (de_bin (od_add rfl) (de_ix (od_ix2 rfl hu1) (de_v 0) de_int) de_int) (dg_set 0 hu1 de_int)) (dss_cons (ds_if (dt_cmp bl_gt od_gt (de_ix (od_ix2 rfl hu1) (de_v 0) de_int) (de_callB (od_len rfl) (by rfl) T.z_len (by decide +kernel) (da_cons (de_ix (od_ix2 rfl hu1) (de_v 0) de_int) da_nil))) (dss_cons (ds_asg (de_bin od_mod (de_callT od_int (by rfl) T.z_int (by decide +kernel) (da_cons (de_bin (od_add rfl) (de_bin od_mul (de_ix (od_ix2 rfl hu1) (de_v 0) de_int) de_int) de_int) da_nil)) de_int) (dg_set 0 hu1 de_int)) (dss_one (ds_ret (de_bin od_mod (de_callT od_int (by rfl) T.z_int (by decide +kernel) (da_cons (de_bin od_div (de_ix (od_ix2 rfl hu1) (de_v 0) de_int) de_int) da_nil)) (de_v 1))))) dss_nil) (dss_cons (ds_asg (de_ix (od_ix2 rfl hu1) (de_ix (od_ix2 rfl hu1) (de_v 0) de_int) (de_bin od_sub (de_ix (od_ix2 rfl hu1) (de_v 0) de_int) de_int)) (dg_n (i := 3) sc__law_taken.nd)) (dss_cons (ds_asg (de_bin od_mod (de_callT od_int (by rfl) T.z_int (by decide +kernel) (da_cons (de_bin (od_add rfl) (de_bin (od_add rfl) (de_bin od_mul (de_ix (od_ix2 rfl hu1) (de_v 0) de_int) de_int) (de_v 3)) de_int) da_nil)) de_int) (dg_set 0 hu1 de_int)) (dss_cons (ds_if (dt_cmp bl_ge od_ge (de_v 3) (de_bin od_pow de_int de_int)) (dss_cons (ds_asg (de_bin od_div (de_v 3) (de_v 1)) (dg_set 0 hu1 de_int)) (dss_one (ds_ret (de_bin od_mod (de_callT od_int (by rfl) T.z_int (by decide +kernel) (da_cons (de_v 3) da_nil)) (de_v 1))))) dss_nil) (dss_one (ds_ret (de_bin od_mod (de_callT od_int (by rfl) T.z_int (by decide +kernel) (da_cons (de_bin (od_add rfl) (de_bin od_mul (de_bin od_mod (de_callT od_int (by rfl) T.z_int (by decide +kernel) (da_cons (de_v 3) da_nil)) de_int) de_int) (de_bin od_div (de_ix (od_ix2 rfl hu1) (de_v 0) de_int) de_int)) da_nil)) (de_v 1))))))))))
theorem ok__law_coils (T : Top Z base) : FnOk P w Z.K Z.mg base (L2.CX P w) 1 T.a__law_coils T.d__law_coils ["coil", "pieces"] (spP Z 2 m__law_coils) := okPi (N := N__law_coils) T.F__law_coils sc__law_coils fun cdv A outer s Y H E hnt hr => by
  have px : PX (cxOf (L2.CX P w) P w Z.K Z.mg base N__law_coils "_law_coils" (defScope s__law_coils) T.a__law_coils cdv A outer s H E) (Gp Y H E) := px_of (takes_of rfl rfl rfl rfl)
  have hpo : PassesOwn (model P w) (cxOf (L2.CX P w) P w Z.K Z.mg base N__law_coils "_law_coils" (defScope s__law_coils) T.a__law_coils cdv A outer s H E).A (cxOf (L2.CX P w) P w Z.K Z.mg base N__law_coils "_law_coils" (defScope s__law_coils) T.a__law_coils cdv A outer s H E).env (cxOf (L2.CX P w) P w Z.K Z.mg base N__law_coils "_law_coils" (defScope s__law_coils) T.a__law_coils cdv A outer s H E).xe := passes_of rfl
  have hu64 := hr.units
  have hu65 := room65 hr
  have hu80 := room80 hr
  have hu1 := room1 hr
  exact (dss_cons (ds_own 2 (dr_dispT hu1 (fun _ _ => dky_unit) (fun _ _ => de_bl)) sc__law_coils.nd) (dss_cons (ds_for hpo rfl (di_seq rfl (de_rev rfl (de_callB (od_sorted rfl hu80) (by rfl) T.z_sorted (by decide +kernel) (da_cons (de_v 1) da_nil)))) (dg_n (i := 3) sc__law_coils.nd) (dss_cons (ds_own 4 dr_dicT sc__law_coils.nd) (dss_cons (ds_lock 2 hnt rfl fun _ _ _ => ds_for hpo rfl (di_lk 2 hnt) (dg_n (i := 5) sc__law_coils.nd) (dss_cons (ds_for hpo rfl (di_rng1 (by rfl) T.z_range (da_cons (de_callB (od_len rfl) (by rfl) T.z_len (by decide +kernel) (da_cons (de_v 5) da_nil)) da_nil)) (dg_n (i := 6) sc__law_coils.nd) (dss_one (ds_if (dt_cmp bl_le od_le (de_bin (od_add rfl) (de_ix (od_ix2 rfl hu1) (de_v 5) (de_v 6)) (de_v 3)) (de_v 0)) (dss_one (ds_asg de_bl (dg_setT 4 hu1 (dky_tup (by rfl) T.z_tuple (de_callB (od_sorted rfl hu80) (by rfl) T.z_sorted (by decide +kernel) (da_cons (de_bin (od_add rfl) (de_bin (od_add rfl) (de_sl rfl (de_v 5) do_none (do_some (de_v 6))) (de_tup (da_cons (de_bin (od_add rfl) (de_ix (od_ix2 rfl hu1) (de_v 5) (de_v 6)) (de_v 3)) da_nil))) (de_sl rfl (de_v 5) (do_some (de_bin (od_add rfl) (de_v 6) de_int)) do_none)) da_nil)))))) dss_nil))) (dss_one (ds_asg de_bl (dg_setT 4 hu1 (dky_tup (by rfl) T.z_tuple (de_callB (od_sorted rfl hu80) (by rfl) T.z_sorted (by decide +kernel) (da_cons (de_bin (od_add rfl) (de_v 5) (de_tup (da_cons (de_v 3) da_nil))) da_nil)))))))) (dss_one (ds_own 2 (dr_mv 4) sc__law_coils.nd))))) (dss_one (ds_ret (de_callB (od_minL rfl) (by rfl) T.z_min (by decide +kernel) (da_cons (de_lock 2 hnt rfl fun _ _ _ => (de_lc (own := [("cuts", 5)]) rfl sc__law_coils.nd (di_lk 2 hnt) (blkOk_by (own := [("cuts", 5)]) (N := N__law_coils) (sc := defScope s__law_coils) (by decide +kernel)) (by decide) rfl (fun _ _ _ _ _ _ => (dg_n (i := 5) sc__law_coils.nd)) (fun _ _ _ _ _ _ => dts_nil) (fun _ _ _ _ _ _ => (de_callB (od_len rfl) (by rfl) T.z_len (by decide +kernel) (da_cons (de_v 5) da_nil))))) da_nil))))))
theorem ok_is_within (T : Top Z base) : FnOk P w Z.K Z.mg base (L2.CX P w) 2 T.a_is_within T.d_is_within ["value", "least", "most"] (spP Z 3 m_is_within) := okP (N := N_is_within) T.F_is_within sc_is_within fun cdv A outer s Y H E hr => by
  have px : PX (cxOf (L2.CX P w) P w Z.K Z.mg base N_is_within "is_within" (defScope s_is_within) T.a_is_within cdv A outer s H E) (Gp Y H E) := px_of (takes_of rfl rfl rfl rfl)
  have hpo : PassesOwn (model P w) (cxOf (L2.CX P w) P w Z.K Z.mg base N_is_within "is_within" (defScope s_is_within) T.a_is_within cdv A outer s H E).A (cxOf (L2.CX P w) P w Z.K Z.mg base N_is_within "is_within" (defScope s_is_within) T.a_is_within cdv A outer s H E).env (cxOf (L2.CX P w) P w Z.K Z.mg base N_is_within "is_within" (defScope s_is_within) T.a_is_within cdv A outer s H E).xe := passes_of rfl
  have hu64 := hr.units
  have hu65 := room65 hr
  have hu80 := room80 hr
  have hu1 := room1 hr
  exact (dss_one (ds_ret (de_and (de_call (ok_is_whole T) (hr.mono (by decide)) (by rfl) T.g_is_whole T.F_is_whole.kp T.b_is_whole px econst_p (da_cons (de_v 0) da_nil)) (de_one (de_chain od_le od_le (de_v 1) (de_v 0) (de_v 2))))))
theorem ok_states (T : Top Z base) : FnOk P w Z.K Z.mg base (L2.CX P w) 2 T.a_states T.d_states ["coil", "pieces"] (spP Z 2 m_states) := okP (N := N_states) T.F_states sc_states fun cdv A outer s Y H E hr => by
  have px : PX (cxOf (L2.CX P w) P w Z.K Z.mg base N_states "states" (defScope s_states) T.a_states cdv A outer s H E) (Gp Y H E) := px_of (takes_of rfl rfl rfl rfl)
  have hpo : PassesOwn (model P w) (cxOf (L2.CX P w) P w Z.K Z.mg base N_states "states" (defScope s_states) T.a_states cdv A outer s H E).A (cxOf (L2.CX P w) P w Z.K Z.mg base N_states "states" (defScope s_states) T.a_states cdv A outer s H E).env (cxOf (L2.CX P w) P w Z.K Z.mg base N_states "states" (defScope s_states) T.a_states cdv A outer s H E).xe := passes_of rfl
  have hu64 := hr.units
  have hu65 := room65 hr
  have hu80 := room80 hr
  have hu1 := room1 hr
  exact (dss_cons (ds_par2 2 3 (dar_cons (dr_disp (dk_cons (fun _ _ => de_int) (fun _ _ => (de_tup (da_cons de_int (da_cons (de_v 0) da_nil)))) dk_nil) rfl rfl (by simp) (by decide)) fun _ _ => (dar_cons (dr_d (de_call (ok_weights_of T) (hr.mono (by decide)) (by rfl) T.g_weights_of T.F_weights_of.kp T.b_weights_of (px_hold px) (econst_hold econst_p) (da_cons (de_v 1) da_nil))) fun _ _ => dar_nil)) rfl sc_states.nd) (dss_cons (ds_for hpo rfl (di_rng1 (by rfl) T.z_range (da_cons (de_ix (od_ix2 rfl hu1) (de_v 3) (de_un od_neg de_int)) da_nil)) (dg_n (i := 4) sc_states.nd) (dss_cons (ds_asg (de_ix (od_ix2 rfl hu1) (de_v 2) (de_v 4)) (dg_t rfl rfl (dgs_cons (dg_n (i := 5) sc_states.nd) (dgs_cons (dg_n (i := 6) sc_states.nd) dgs_nil)))) (dss_one (ds_for hpo rfl (di_enum rfl (by rfl) T.z_enumerate (da_cons (de_v 1) da_nil)) (dg_t rfl rfl (dgs_cons (dg_n (i := 7) sc_states.nd) (dgs_cons (dg_n (i := 8) sc_states.nd) dgs_nil))) (dss_one (ds_if (dt_cmp bl_eq (od_eq rfl hu64) (de_bin od_mod (de_bin od_div (de_v 4) (de_ix (od_ix2 rfl hu1) (de_v 3) (de_v 7))) de_int) de_int) (dss_cons (ds_asg (de_if (dt_cmp bl_le od_le (de_bin (od_add rfl) (de_v 6) (de_v 8)) (de_v 0)) (de_tup (da_cons (de_v 5) (da_cons (de_bin (od_add rfl) (de_v 6) (de_v 8)) da_nil))) (de_tup (da_cons (de_bin (od_add rfl) (de_v 5) de_int) (da_cons (de_v 8) da_nil)))) (dg_n (i := 9) sc_states.nd)) (dss_cons (ds_asg (de_bin (od_add rfl) (de_v 4) (de_ix (od_ix2 rfl hu1) (de_v 3) (de_v 7))) (dg_n (i := 10) sc_states.nd)) (dss_one (ds_if (dt_bool (dw_or (dt_cmp bl_notIn2 (od_notIn2 rfl hu65) (de_v 10) (de_v 2)) (dw_or1 (dt_cmp bl_lt (od_lt rfl hu64) (de_v 9) (de_ix (od_ix2 rfl hu1) (de_v 2) (de_v 10)))))) (dss_one (ds_asg (de_v 9) (dg_set 2 hu1 (de_v 10)))) dss_nil)))) dss_nil)))))) (dss_one (ds_ret (de_mv 2)))))
theorem ok_last_cut (T : Top Z base) : FnOk P w Z.K Z.mg base (L2.CX P w) 2 T.a_last_cut T.d_last_cut ["coil", "pieces", "best", "chosen"] (spP Z 4 m_last_cut) := okP (N := N_last_cut) T.F_last_cut sc_last_cut fun cdv A outer s Y H E hr => by
  have px : PX (cxOf (L2.CX P w) P w Z.K Z.mg base N_last_cut "last_cut" (defScope s_last_cut) T.a_last_cut cdv A outer s H E) (Gp Y H E) := px_of (takes_of rfl rfl rfl rfl)
  have hpo : PassesOwn (model P w) (cxOf (L2.CX P w) P w Z.K Z.mg base N_last_cut "last_cut" (defScope s_last_cut) T.a_last_cut cdv A outer s H E).A (cxOf (L2.CX P w) P w Z.K Z.mg base N_last_cut "last_cut" (defScope s_last_cut) T.a_last_cut cdv A outer s H E).env (cxOf (L2.CX P w) P w Z.K Z.mg base N_last_cut "last_cut" (defScope s_last_cut) T.a_last_cut cdv A outer s H E).xe := passes_of rfl
  have hu64 := hr.units
  have hu65 := room65 hr
  have hu80 := room80 hr
  have hu1 := room1 hr
  exact (dss_cons (ds_asg (de_call (ok_weights_of T) (hr.mono (by decide)) (by rfl) T.g_weights_of T.F_weights_of.kp T.b_weights_of px econst_p (da_cons (de_v 1) da_nil)) (dg_n (i := 4) sc_last_cut.nd)) (dss_cons (ds_for hpo rfl (di_enum rfl (by rfl) T.z_enumerate (da_cons (de_v 1) da_nil)) (dg_t rfl rfl (dgs_cons (dg_n (i := 5) sc_last_cut.nd) (dgs_cons (dg_n (i := 6) sc_last_cut.nd) dgs_nil))) (dss_one (ds_if (dt_cmp bl_eq (od_eq rfl hu64) (de_bin od_mod (de_bin od_div (de_v 3) (de_ix (od_ix2 rfl hu1) (de_v 4) (de_v 5))) de_int) de_int) (dss_cons (ds_asg (de_ix (od_ix2 rfl hu1) (de_v 2) (de_bin od_sub (de_v 3) (de_ix (od_ix2 rfl hu1) (de_v 4) (de_v 5)))) (dg_t rfl rfl (dgs_cons (dg_n (i := 7) sc_last_cut.nd) (dgs_cons (dg_n (i := 8) sc_last_cut.nd) dgs_nil)))) (dss_cons (ds_asg (de_if (dt_cmp bl_le od_le (de_bin (od_add rfl) (de_v 8) (de_v 6)) (de_v 0)) (de_tup (da_cons (de_v 7) (da_cons (de_bin (od_add rfl) (de_v 8) (de_v 6)) da_nil))) (de_tup (da_cons (de_bin (od_add rfl) (de_v 7) de_int) (da_cons (de_v 6) da_nil)))) (dg_n (i := 9) sc_last_cut.nd)) (dss_one (ds_if (dt_cmp bl_eq (od_eq rfl hu64) (de_v 9) (de_ix (od_ix2 rfl hu1) (de_v 2) (de_v 3))) (dss_one (ds_ret (de_v 5))) dss_nil)))) dss_nil))) (dss_one (ds_ret de_non))))
theorem ok__law_pick (T : Top Z base) : FnOk P w Z.K Z.mg base (L2.CX P w) 2 T.a__law_pick T.d__law_pick ["row", "things"] (spB Z 1 m__law_pick) := okB (N := N__law_pick) T.F__law_pick sc__law_pick rfl fun cdv A outer s Y H B v0 E hr => by
  have px : PX (cxOf (L2.CX P w) P w Z.K Z.mg base N__law_pick "_law_pick" (defScope s__law_pick) T.a__law_pick cdv A outer s H E) (GpB Y H B v0 E) := px_of (takes_of rfl rfl rfl rfl)
  have hpo : PassesOwn (model P w) (cxOf (L2.CX P w) P w Z.K Z.mg base N__law_pick "_law_pick" (defScope s__law_pick) T.a__law_pick cdv A outer s H E).A (cxOf (L2.CX P w) P w Z.K Z.mg base N__law_pick "_law_pick" (defScope s__law_pick) T.a__law_pick cdv A outer s H E).env (cxOf (L2.CX P w) P w Z.K Z.mg base N__law_pick "_law_pick" (defScope s__law_pick) T.a__law_pick cdv A outer s H E).xe := passes_of rfl
  have hu64 := hr.units
  have hu65 := room65 hr
  have hu80 := room80 hr
  have hu1 := room1 hr
  exact (dss_one (ds_ret (de_ix (od_ix2 rfl hu1) (de_v 1) (de_callO 0 (ok__law_taken T) (hr.mono (by decide)) (by rfl) T.g__law_taken T.F__law_taken.kp T.b__law_taken px econst_B (da_cons (de_callB (od_len rfl) (by rfl) T.z_len (by decide +kernel) (da_cons (de_v 1) da_nil)) da_nil)))))
theorem ok__law_pieces (T : Top Z base) : FnOk P w Z.K Z.mg base (L2.CX P w) 3 T.a__law_pieces T.d__law_pieces ["row", "coil", "most"] (spB Z 2 m__law_pieces) := okB (N := N__law_pieces) T.F__law_pieces sc__law_pieces rfl fun cdv A outer s Y H B v0 E hr => by
  have px : PX (cxOf (L2.CX P w) P w Z.K Z.mg base N__law_pieces "_law_pieces" (defScope s__law_pieces) T.a__law_pieces cdv A outer s H E) (GpB Y H B v0 E) := px_of (takes_of rfl rfl rfl rfl)
  have hpo : PassesOwn (model P w) (cxOf (L2.CX P w) P w Z.K Z.mg base N__law_pieces "_law_pieces" (defScope s__law_pieces) T.a__law_pieces cdv A outer s H E).A (cxOf (L2.CX P w) P w Z.K Z.mg base N__law_pieces "_law_pieces" (defScope s__law_pieces) T.a__law_pieces cdv A outer s H E).env (cxOf (L2.CX P w) P w Z.K Z.mg base N__law_pieces "_law_pieces" (defScope s__law_pieces) T.a__law_pieces cdv A outer s H E).xe := passes_of rfl
  have hu64 := hr.units
  have hu65 := room65 hr
  have hu80 := room80 hr
  have hu1 := room1 hr
  exact (dss_cons (ds_asg (de_callO 0 (ok__law_pick T) (hr.mono (by decide)) (by rfl) T.g__law_pick T.F__law_pick.kp T.b__law_pick px econst_B (da_cons (de_lst (da_cons (de_v 1) (da_cons (de_callB (od_max rfl) (by rfl) T.z_max (by decide +kernel) (da_cons de_int (da_cons (de_bin od_div (de_v 1) de_int) da_nil))) (da_cons (de_callB (od_max rfl) (by rfl) T.z_max (by decide +kernel) (da_cons de_int (da_cons (de_bin (od_add rfl) (de_bin od_div (de_v 1) de_int) de_int) da_nil))) da_nil)))) da_nil)) (dg_n (i := 3) sc__law_pieces.nd)) (dss_one (ds_ret (de_callT (od_tuple rfl) (by rfl) T.z_tuple (by decide +kernel) (da_cons (de_lc (own := [("k", 4)]) rfl sc__law_pieces.nd (di_rng1 (by rfl) T.z_range (da_cons (de_callO 0 (ok__law_taken T) (hr.mono (by decide)) (by rfl) T.g__law_taken T.F__law_taken.kp T.b__law_taken px econst_B (da_cons (de_bin (od_add rfl) (de_v 2) de_int) da_nil)) da_nil)) (blkOk_by (own := [("k", 4)]) (N := N__law_pieces) (sc := defScope s__law_pieces) (by decide +kernel)) (by decide) rfl (fun _ _ _ _ _ _ => (dg_n (i := 4) sc__law_pieces.nd)) (fun _ _ _ _ _ _ => dts_nil) (fun _ _ _ _ _ _ => (de_bin (od_add rfl) de_int (de_callO 0 (ok__law_taken T) (hr.mono (by decide)) (by rfl) T.g__law_taken T.F__law_taken.kp T.b__law_taken (px_never fun _ _ _ _ h => h) (econst_f fun _ _ _ _ h => h) (da_cons (de_v 3) da_nil))))) da_nil)))))
theorem ok__law_alike (T : Top Z base) : ∀ d, FnOk P w Z.K Z.mg base (L2.CX P w) (d + 1) T.a__law_alike T.d__law_alike ["found", "due"] (spP Z 2 (m__law_alike d))
  | 0 => ok_st.mono (by omega)
  | d + 1 => by
    have ih := ok__law_alike T d
    have e : d + 1 + 1 = (d + 1) + 1 := by omega
    rw [e]
    refine okP (N := N__law_alike) (body := b__law_alike (m__law_alike d)) T.F__law_alike sc__law_alike fun cdv A outer s Y H E hr => ?_
    have px : PX (cxOf (L2.CX P w) P w Z.K Z.mg base N__law_alike "_law_alike" (defScope s__law_alike) T.a__law_alike cdv A outer s H E) (Gp Y H E) := px_of (takes_of rfl rfl rfl rfl)
    have hpo : PassesOwn (model P w) (cxOf (L2.CX P w) P w Z.K Z.mg base N__law_alike "_law_alike" (defScope s__law_alike) T.a__law_alike cdv A outer s H E).A (cxOf (L2.CX P w) P w Z.K Z.mg base N__law_alike "_law_alike" (defScope s__law_alike) T.a__law_alike cdv A outer s H E).env (cxOf (L2.CX P w) P w Z.K Z.mg base N__law_alike "_law_alike" (defScope s__law_alike) T.a__law_alike cdv A outer s H E).xe := passes_of rfl
    have hu64 := hr.units
    have hu65 := room65 hr
    have hu80 := room80 hr
    have hu1 := room1 hr
    exact (dss_cons (ds_if (dt_val (de_isi2 rfl (by rfl) T.z_isinstance (by rfl) T.z_tuple (by rfl) T.z_list (by decide +kernel) (by decide +kernel) (de_v 1))) (dss_cons (ds_if (dt_bool (dw_or (dt_not (dt_val (de_isi2 rfl (by rfl) T.z_isinstance (by rfl) T.z_tuple (by rfl) T.z_list (by decide +kernel) (by decide +kernel) (de_v 0)))) (dw_or1 (dt_cmp bl_ne (od_ne rfl hu64) (de_isi rfl (by rfl) T.z_isinstance (by rfl) T.z_list (by decide +kernel) (de_v 0)) (de_isi rfl (by rfl) T.z_isinstance (by rfl) T.z_list (by decide +kernel) (de_v 1)))))) (dss_one (ds_ret de_bl)) dss_nil) (dss_cons (ds_if (dt_cmp bl_ne (od_ne rfl hu64) (de_callB (od_len rfl) (by rfl) T.z_len (by decide +kernel) (da_cons (de_v 0) da_nil)) (de_callB (od_len rfl) (by rfl) T.z_len (by decide +kernel) (da_cons (de_v 1) da_nil))) (dss_one (ds_ret de_bl)) dss_nil) (dss_one (ds_ret (de_cmp (od_eq rfl hu64) (de_lc (own := [("k", 2)]) rfl sc__law_alike.nd (di_rng1 (by rfl) T.z_range (da_cons (de_callB (od_len rfl) (by rfl) T.z_len (by decide +kernel) (da_cons (de_v 1) da_nil)) da_nil)) (blkOk_by (own := [("k", 2)]) (N := N__law_alike) (sc := defScope s__law_alike) (by decide +kernel)) (by decide) rfl (fun _ _ _ _ _ _ => (dg_n (i := 2) sc__law_alike.nd)) (fun _ _ _ _ _ _ => (dts_one (dt_not (dt_val (de_call (ih) (hr.mono (Nat.le_refl _)) (by rfl) T.g__law_alike T.F__law_alike.kp T.b__law_alike (px_never fun _ _ _ _ h => h) (econst_f fun _ _ _ _ h => h) (da_cons (de_ix (od_ix2 rfl hu1) (de_v 0) (de_v 2)) (da_cons (de_ix (od_ix2 rfl hu1) (de_v 1) (de_v 2)) da_nil))))))) (fun _ _ _ _ _ _ => (de_v 2))) (de_lst da_nil)))))) dss_nil) (dss_cons (ds_if (dt_bool (dw_or (dt_cmp bl_isN od_isN (de_v 1) de_non) (dw_or1 (dt_val (de_isi rfl (by rfl) T.z_isinstance (by rfl) T.z_str (by decide +kernel) (de_v 1)))))) (dss_one (ds_ret (de_and (de_cmp (od_eq rfl hu64) (de_v 0) (de_v 1)) (de_one (de_cmp (od_eq rfl hu64) (de_isi rfl (by rfl) T.z_isinstance (by rfl) T.z_str (by decide +kernel) (de_v 0)) (de_isi rfl (by rfl) T.z_isinstance (by rfl) T.z_str (by decide +kernel) (de_v 1))))))) dss_nil) (dss_one (ds_ret (de_and (de_isi rfl (by rfl) T.z_isinstance (by rfl) T.z_int (by decide +kernel) (de_v 0)) (de_and (de_cmp (od_eq rfl hu64) (de_isi rfl (by rfl) T.z_isinstance (by rfl) T.z_bool (by decide +kernel) (de_v 0)) (de_isi rfl (by rfl) T.z_isinstance (by rfl) T.z_bool (by decide +kernel) (de_v 1))) (de_one (de_cmp (od_eq rfl hu64) (de_v 0) (de_v 1)))))))))
theorem ok_require_pieces (T : Top Z base) : FnOk P w Z.K Z.mg base (L2.CX P w) 5 T.a_require_pieces T.d_require_pieces ["coil", "pieces"] (spP Z 2 m_require_pieces) := okPc (N := N_require_pieces) T.F_require_pieces sc_require_pieces T.h_require_pieces fun A outer s Y H E hr => by
  have px : PX (cxOf (L2.CX P w) P w Z.K Z.mg base N_require_pieces "require_pieces" (defScope s_require_pieces) T.a_require_pieces (.ref T.c_require_pieces) A outer s H E) (Gp Y H E) := px_of (takes_of rfl rfl rfl rfl)
  have hpo : PassesOwn (model P w) (cxOf (L2.CX P w) P w Z.K Z.mg base N_require_pieces "require_pieces" (defScope s_require_pieces) T.a_require_pieces (.ref T.c_require_pieces) A outer s H E).A (cxOf (L2.CX P w) P w Z.K Z.mg base N_require_pieces "require_pieces" (defScope s_require_pieces) T.a_require_pieces (.ref T.c_require_pieces) A outer s H E).env (cxOf (L2.CX P w) P w Z.K Z.mg base N_require_pieces "require_pieces" (defScope s_require_pieces) T.a_require_pieces (.ref T.c_require_pieces) A outer s H E).xe := passes_of rfl
  have hu64 := hr.units
  have hu65 := room65 hr
  have hu80 := room80 hr
  have hu1 := room1 hr
  exact (dss_cons (ds_if (dt_not (dt_val (de_call (ok_is_within T) (hr.mono (by decide)) (by rfl) T.g_is_within T.F_is_within.kp T.b_is_within px econst_p (da_cons (de_v 0) (da_cons de_int (da_cons (de_gint (by rfl) T.c_MOST_COIL) da_nil)))))) (dss_one ds_never) dss_nil) (dss_lam 2 ⟨T.tb_require_pieces, rfl, T.m_require_pieces, T.u_require_pieces, rfl, ndef_free (sc := defScope s_require_pieces) (fr := ["coil"]) (by decide +kernel)⟩ (fun f_0 d_0 => (dss_cons (ds_asg (de_fz (dr_callJ (k := 2) (Np := ["row", "ahead", "coil"]) (psl := ["row", "ahead"]) (fr := ["coil"]) T.F_first_wrong sc_first_wrong rfl (by decide) T.b_first_wrong (hr.mono (by decide)) (by rfl) T.g_first_wrong (nscope_lam (by decide +kernel)) rfl (fun ok => Caps.made ok (ndef_free (sc := defScope s_require_pieces) (fr := ["coil"]) (by decide +kernel)) (ndef_fr (sc := defScope s_require_pieces) (by decide +kernel)) rfl) (fun pm ctv us h => by obtain ⟨a, b, rfl⟩ := two_of h; rfl) rfl (.inr (.inl ⟨rfl, rfl⟩)) (.inr (.inr ⟨rfl, rfl⟩)) (fun Y' H' A' outer' s' H'' hr' => by
      have hu64 := hr'.units
      have hu65 := room65 hr'
      have hu80 := room80 hr'
      have hu1 := room1 hr'
      have hr := hr'
      exact (de_call (ok_is_within T) (hr.mono (by decide)) (by rfl) T.g_is_within T.F_is_within.kp T.b_is_within (px_never fun _ _ _ _ h => h) (econst_f fun _ _ _ _ h => h) (da_cons (de_v 0) (da_cons de_int (da_cons (de_v 2) da_nil))))) (fun cdv A' outer' s' H' Y' jm hr' hJ => bd_first_wrong T hr' hJ) rfl (.inl rfl) (da_cons (de_v 1) (da_cons de_int (da_cons (de_gint (by rfl) T.c_MOST_PIECES) (da_cons (de_vj 2 rfl) da_nil)))))) (dg_n (i := 3) sc_require_pieces.nd)) (dss_one (ds_if (dt_cmp bl_notN od_notN (de_v 3) de_non) (dss_one ds_never) dss_nil)))) sc_require_pieces.nd))
theorem ok_fewest_coils (T : Top Z base) : FnOk P w Z.K Z.mg base (L2.CX P w) 6 T.a_fewest_coils T.d_fewest_coils ["coil", "pieces"] (spP Z 2 m_fewest_coils) := okP (N := N_fewest_coils) T.F_fewest_coils sc_fewest_coils fun cdv A outer s Y H E hr => by
  have px : PX (cxOf (L2.CX P w) P w Z.K Z.mg base N_fewest_coils "fewest_coils" (defScope s_fewest_coils) T.a_fewest_coils cdv A outer s H E) (Gp Y H E) := px_of (takes_of rfl rfl rfl rfl)
  have hpo : PassesOwn (model P w) (cxOf (L2.CX P w) P w Z.K Z.mg base N_fewest_coils "fewest_coils" (defScope s_fewest_coils) T.a_fewest_coils cdv A outer s H E).A (cxOf (L2.CX P w) P w Z.K Z.mg base N_fewest_coils "fewest_coils" (defScope s_fewest_coils) T.a_fewest_coils cdv A outer s H E).env (cxOf (L2.CX P w) P w Z.K Z.mg base N_fewest_coils "fewest_coils" (defScope s_fewest_coils) T.a_fewest_coils cdv A outer s H E).xe := passes_of rfl
  have hu64 := hr.units
  have hu65 := room65 hr
  have hu80 := room80 hr
  have hu1 := room1 hr
  exact (dss_cons (ds_expr (de_call (ok_require_pieces T) (hr.mono (by decide)) (by rfl) T.g_require_pieces T.F_require_pieces.kp T.b_require_pieces px econst_p (da_cons (de_v 0) (da_cons (de_v 1) da_nil)))) (dss_one (ds_ret (de_ix (od_ix2 rfl hu1) (de_ix (od_ix2 rfl hu1) (de_call (ok_states T) (hr.mono (by decide)) (by rfl) T.g_states T.F_states.kp T.b_states px econst_p (da_cons (de_v 0) (da_cons (de_v 1) da_nil))) (de_bin od_sub (de_ix (od_ix2 rfl hu1) (de_call (ok_weights_of T) (hr.mono (by decide)) (by rfl) T.g_weights_of T.F_weights_of.kp T.b_weights_of px econst_p (da_cons (de_v 1) da_nil)) (de_un od_neg de_int)) de_int)) de_int))))
theorem ok_cutting (T : Top Z base) : FnOk P w Z.K Z.mg base (L2.CX P w) 6 T.a_cutting T.d_cutting ["coil", "pieces"] (spP Z 2 m_cutting) := okP (N := N_cutting) T.F_cutting sc_cutting fun cdv A outer s Y H E hr => by
  have px : PX (cxOf (L2.CX P w) P w Z.K Z.mg base N_cutting "cutting" (defScope s_cutting) T.a_cutting cdv A outer s H E) (Gp Y H E) := px_of (takes_of rfl rfl rfl rfl)
  have hpo : PassesOwn (model P w) (cxOf (L2.CX P w) P w Z.K Z.mg base N_cutting "cutting" (defScope s_cutting) T.a_cutting cdv A outer s H E).A (cxOf (L2.CX P w) P w Z.K Z.mg base N_cutting "cutting" (defScope s_cutting) T.a_cutting cdv A outer s H E).env (cxOf (L2.CX P w) P w Z.K Z.mg base N_cutting "cutting" (defScope s_cutting) T.a_cutting cdv A outer s H E).xe := passes_of rfl
  have hu64 := hr.units
  have hu65 := room65 hr
  have hu80 := room80 hr
  have hu1 := room1 hr
  exact (dss_cons (ds_expr (de_call (ok_require_pieces T) (hr.mono (by decide)) (by rfl) T.g_require_pieces T.F_require_pieces.kp T.b_require_pieces px econst_p (da_cons (de_v 0) (da_cons (de_v 1) da_nil)))) (dss_cons (ds_par2 2 3 (dar_cons (dr_d (de_call (ok_states T) (hr.mono (by decide)) (by rfl) T.g_states T.F_states.kp T.b_states px econst_p (da_cons (de_v 0) (da_cons (de_v 1) da_nil)))) fun _ _ => (dar_cons (dr_d (de_call (ok_weights_of T) (hr.mono (by decide)) (by rfl) T.g_weights_of T.F_weights_of.kp T.b_weights_of (px_hold px) (econst_hold econst_p) (da_cons (de_v 1) da_nil))) fun _ _ => dar_nil)) rfl sc_cutting.nd) (dss_cons (ds_par3 4 5 6 (dar_cons (dr_d (de_bin od_sub (de_ix (od_ix2 rfl hu1) (de_v 3) (de_un od_neg de_int)) de_int)) fun _ _ => (dar_cons (dr_lst da_nil) fun _ _ => (dar_cons (dr_lst da_nil) fun _ _ => dar_nil))) rfl sc_cutting.nd) (dss_cons (ds_while hpo (dt_cmp bl_gt od_gt (de_v 4) de_int) (dss_cons (ds_asg (de_call (ok_last_cut T) (hr.mono (by decide)) (by rfl) T.g_last_cut T.F_last_cut.kp T.b_last_cut px econst_p (da_cons (de_v 0) (da_cons (de_v 1) (da_cons (de_v 2) (da_cons (de_v 4) da_nil))))) (dg_n (i := 7) sc_cutting.nd)) (dss_cons (ds_app 6 (de_v 7)) (dss_cons (ds_aug 4 ipo_sub (de_ix (od_ix2 rfl hu1) (de_v 3) (de_v 7)) sc_cutting.nd) (dss_cons (ds_asg (de_ix (od_ix2 rfl hu1) (de_v 2) (de_v 4)) (dg_t rfl rfl (dgs_cons (dg_n (i := 8) sc_cutting.nd) (dgs_cons (dg_n (i := 9) sc_cutting.nd) dgs_nil)))) (dss_one (ds_if (dt_cmp bl_gt od_gt (de_bin (od_add rfl) (de_v 9) (de_ix (od_ix2 rfl hu1) (de_v 1) (de_v 7))) (de_v 0)) (dss_cons (ds_app 5 (de_callT (od_tuple rfl) (by rfl) T.z_tuple (by decide +kernel) (da_cons (de_callB (od_sorted rfl hu80) (by rfl) T.z_sorted (by decide +kernel) (da_cons (de_v 6) da_nil)) da_nil))) (dss_one (ds_own 6 (dr_lst da_nil) sc_cutting.nd))) dss_nil))))))) (dss_one (ds_ret (de_callT (od_tuple rfl) (by rfl) T.z_tuple (by decide +kernel) (da_cons (de_callB (od_sorted rfl hu80) (by rfl) T.z_sorted (by decide +kernel) (da_cons (de_v 5) da_nil)) da_nil))))))))
theorem ok_is_cutting (T : Top Z base) : FnOk P w Z.K Z.mg base (L2.CX P w) 6 T.a_is_cutting T.d_is_cutting ["coil", "pieces", "value"] (spP Z 3 m_is_cutting) := okP (N := N_is_cutting) T.F_is_cutting sc_is_cutting fun cdv A outer s Y H E hr => by
  have px : PX (cxOf (L2.CX P w) P w Z.K Z.mg base N_is_cutting "is_cutting" (defScope s_is_cutting) T.a_is_cutting cdv A outer s H E) (Gp Y H E) := px_of (takes_of rfl rfl rfl rfl)
  have hpo : PassesOwn (model P w) (cxOf (L2.CX P w) P w Z.K Z.mg base N_is_cutting "is_cutting" (defScope s_is_cutting) T.a_is_cutting cdv A outer s H E).A (cxOf (L2.CX P w) P w Z.K Z.mg base N_is_cutting "is_cutting" (defScope s_is_cutting) T.a_is_cutting cdv A outer s H E).env (cxOf (L2.CX P w) P w Z.K Z.mg base N_is_cutting "is_cutting" (defScope s_is_cutting) T.a_is_cutting cdv A outer s H E).xe := passes_of rfl
  have hu64 := hr.units
  have hu65 := room65 hr
  have hu80 := room80 hr
  have hu1 := room1 hr
  exact (dss_cons (ds_expr (de_call (ok_require_pieces T) (hr.mono (by decide)) (by rfl) T.g_require_pieces T.F_require_pieces.kp T.b_require_pieces px econst_p (da_cons (de_v 0) (da_cons (de_v 1) da_nil)))) (dss_cons (ds_if (dt_bool (dw_or (dt_not (dt_val (de_isi rfl (by rfl) T.z_isinstance (by rfl) T.z_tuple (by decide +kernel) (de_v 2)))) (dw_or1 (dt_not (dt_val (de_callB (od_all rfl) (by rfl) T.z_all (by decide +kernel) (da_cons (de_lc (own := [("row", 4)]) rfl sc_is_cutting.nd (di_seq rfl (de_v 2)) (blkOk_by (own := [("row", 4)]) (N := N_is_cutting) (sc := defScope s_is_cutting) (by decide +kernel)) (by decide) rfl (fun _ _ _ _ _ _ => (dg_n (i := 4) sc_is_cutting.nd)) (fun _ _ _ _ _ _ => dts_nil) (fun _ _ _ _ _ _ => (de_and (de_isi rfl (by rfl) T.z_isinstance (by rfl) T.z_tuple (by decide +kernel) (de_v 4)) (de_one (de_cmp (od_ne rfl hu64) (de_v 4) (de_tup da_nil)))))) da_nil))))))) (dss_one (ds_ret de_bl)) dss_nil) (dss_cons (ds_lc2 (vs1 := [5]) (own := [("row", 4), ("place", 5)]) 3 rfl sc_is_cutting.nd rfl rfl (sw_true rfl rfl rfl (by decide +kernel)) rfl (di_seq rfl (de_v 2)) (blkOk_by (own := [("row", 4), ("place", 5)]) (N := N_is_cutting) (sc := defScope s_is_cutting) (by decide +kernel)) (by decide) (by decide) (by decide) rfl (fun _ _ _ _ _ _ => (dg_n (i := 4) sc_is_cutting.nd)) (fun _ _ _ _ _ _ => dts_nil) (fun _ _ _ _ _ _ => (di_seq rfl (de_v 4))) (fun _ _ _ _ _ _ => (dg_n (i := 5) sc_is_cutting.nd)) (fun _ _ _ _ _ _ => dts_nil) (fun _ _ _ _ _ _ => (de_v 5))) (dss_cons (ds_if (dt_bool (dw_or (dt_not (dt_val (de_callB (od_all rfl) (by rfl) T.z_all (by decide +kernel) (da_cons (de_lc (own := [("place", 5)]) rfl sc_is_cutting.nd (di_seq rfl (de_v 3)) (blkOk_by (own := [("place", 5)]) (N := N_is_cutting) (sc := defScope s_is_cutting) (by decide +kernel)) (by decide) rfl (fun _ _ _ _ _ _ => (dg_n (i := 5) sc_is_cutting.nd)) (fun _ _ _ _ _ _ => dts_nil) (fun _ _ _ _ _ _ => (de_call (ok_is_whole T) (hr.mono (by decide)) (by rfl) T.g_is_whole T.F_is_whole.kp T.b_is_whole (px_never fun _ _ _ _ h => h) (econst_f fun _ _ _ _ h => h) (da_cons (de_v 5) da_nil)))) da_nil)))) (dw_or1 (dt_cmp bl_ne (od_ne rfl hu64) (de_callB (od_sorted rfl hu80) (by rfl) T.z_sorted (by decide +kernel) (da_cons (de_v 3) da_nil)) (de_lrg1 rfl (by rfl) T.z_list (by rfl) T.z_range (de_callB (od_len rfl) (by rfl) T.z_len (by decide +kernel) (da_cons (de_v 1) da_nil))))))) (dss_one (ds_ret de_bl)) dss_nil) (dss_cons (ds_if (dt_bool (dw_or (dt_cmp bl_ne (od_ne rfl hu64) (de_callT (od_list rfl) (by rfl) T.z_list (by decide +kernel) (da_cons (de_v 2) da_nil)) (de_callB (od_sorted rfl hu80) (by rfl) T.z_sorted (by decide +kernel) (da_cons (de_v 2) da_nil))) (dw_or1 (dt_not (dt_val (de_callB (od_all rfl) (by rfl) T.z_all (by decide +kernel) (da_cons (de_lc (own := [("row", 4)]) rfl sc_is_cutting.nd (di_seq rfl (de_v 2)) (blkOk_by (own := [("row", 4)]) (N := N_is_cutting) (sc := defScope s_is_cutting) (by decide +kernel)) (by decide) rfl (fun _ _ _ _ _ _ => (dg_n (i := 4) sc_is_cutting.nd)) (fun _ _ _ _ _ _ => dts_nil) (fun _ _ _ _ _ _ => (de_cmp (od_eq rfl hu64) (de_callT (od_list rfl) (by rfl) T.z_list (by decide +kernel) (da_cons (de_v 4) da_nil)) (de_callB (od_sorted rfl hu80) (by rfl) T.z_sorted (by decide +kernel) (da_cons (de_v 4) da_nil))))) da_nil))))))) (dss_one (ds_ret de_bl)) dss_nil) (dss_one (ds_ret (de_callB (od_all rfl) (by rfl) T.z_all (by decide +kernel) (da_cons (de_lc (own := [("row", 4)]) rfl sc_is_cutting.nd (di_seq rfl (de_v 2)) (blkOk_by (own := [("row", 4)]) (N := N_is_cutting) (sc := defScope s_is_cutting) (by decide +kernel)) (by decide) rfl (fun _ _ _ _ _ _ => (dg_n (i := 4) sc_is_cutting.nd)) (fun _ _ _ _ _ _ => dts_nil) (fun _ _ _ _ _ _ => (de_cmp od_le (de_callB (od_sumT rfl rfl) (by rfl) T.z_sum (by decide +kernel) (da_cons (de_lc (own := [("place", 5)]) rfl sc_is_cutting.nd (di_seq rfl (de_v 4)) (blkOk_by (by rfl)) (by decide) rfl (fun _ _ _ _ _ _ => (dg_n (i := 5) sc_is_cutting.nd)) (fun _ _ _ _ _ _ => dts_nil) (fun _ _ _ _ _ _ => (de_ix (od_ix2 rfl hu1) (de_v 1) (de_v 5)))) da_nil)) (de_v 0)))) da_nil)))))))))
theorem ok_waste (T : Top Z base) : FnOk P w Z.K Z.mg base (L2.CX P w) 7 T.a_waste T.d_waste ["coil", "pieces", "value"] (spP Z 3 m_waste) := okP (N := N_waste) T.F_waste sc_waste fun cdv A outer s Y H E hr => by
  have px : PX (cxOf (L2.CX P w) P w Z.K Z.mg base N_waste "waste" (defScope s_waste) T.a_waste cdv A outer s H E) (Gp Y H E) := px_of (takes_of rfl rfl rfl rfl)
  have hpo : PassesOwn (model P w) (cxOf (L2.CX P w) P w Z.K Z.mg base N_waste "waste" (defScope s_waste) T.a_waste cdv A outer s H E).A (cxOf (L2.CX P w) P w Z.K Z.mg base N_waste "waste" (defScope s_waste) T.a_waste cdv A outer s H E).env (cxOf (L2.CX P w) P w Z.K Z.mg base N_waste "waste" (defScope s_waste) T.a_waste cdv A outer s H E).xe := passes_of rfl
  have hu64 := hr.units
  have hu65 := room65 hr
  have hu80 := room80 hr
  have hu1 := room1 hr
  exact (dss_one (ds_ret (de_if (dt_val (de_call (ok_is_cutting T) (hr.mono (by decide)) (by rfl) T.g_is_cutting T.F_is_cutting.kp T.b_is_cutting px econst_p (da_cons (de_v 0) (da_cons (de_v 1) (da_cons (de_v 2) da_nil))))) (de_bin od_sub (de_bin od_mul (de_callB (od_len rfl) (by rfl) T.z_len (by decide +kernel) (da_cons (de_v 2) da_nil)) (de_v 0)) (de_callB (od_sumT rfl rfl) (by rfl) T.z_sum (by decide +kernel) (da_cons (de_v 1) da_nil))) de_non)))
theorem ok_least_coil (T : Top Z base) : FnOk P w Z.K Z.mg base (L2.CX P w) 7 T.a_least_coil T.d_least_coil ["pieces", "many"] (spP Z 2 m_least_coil) := okP (N := N_least_coil) T.F_least_coil sc_least_coil fun cdv A outer s Y H E hr => by
  have px : PX (cxOf (L2.CX P w) P w Z.K Z.mg base N_least_coil "least_coil" (defScope s_least_coil) T.a_least_coil cdv A outer s H E) (Gp Y H E) := px_of (takes_of rfl rfl rfl rfl)
  have hpo : PassesOwn (model P w) (cxOf (L2.CX P w) P w Z.K Z.mg base N_least_coil "least_coil" (defScope s_least_coil) T.a_least_coil cdv A outer s H E).A (cxOf (L2.CX P w) P w Z.K Z.mg base N_least_coil "least_coil" (defScope s_least_coil) T.a_least_coil cdv A outer s H E).env (cxOf (L2.CX P w) P w Z.K Z.mg base N_least_coil "least_coil" (defScope s_least_coil) T.a_least_coil cdv A outer s H E).xe := passes_of rfl
  have hu64 := hr.units
  have hu65 := room65 hr
  have hu80 := room80 hr
  have hu1 := room1 hr
  exact (dss_cons (ds_expr (de_call (ok_require_pieces T) (hr.mono (by decide)) (by rfl) T.g_require_pieces T.F_require_pieces.kp T.b_require_pieces px econst_p (da_cons (de_gint (by rfl) T.c_MOST_COIL) (da_cons (de_v 0) da_nil)))) (dss_cons (ds_if (dt_not (dt_val (de_call (ok_is_within T) (hr.mono (by decide)) (by rfl) T.g_is_within T.F_is_within.kp T.b_is_within px econst_p (da_cons (de_v 1) (da_cons de_int (da_cons (de_gint (by rfl) T.c_MOST_PIECES) da_nil)))))) (dss_one ds_never) dss_nil) (dss_cons (ds_for hpo rfl (di_rng2 (by rfl) T.z_range (da_cons (de_maxD rfl rfl (by rfl) T.z_max (de_v 0) de_int) (da_cons (de_bin (od_add rfl) (de_gint (by rfl) T.c_MOST_COIL) de_int) da_nil))) (dg_n (i := 2) sc_least_coil.nd) (dss_one (ds_if (dt_cmp bl_le od_le (de_call (ok_fewest_coils T) (hr.mono (by decide)) (by rfl) T.g_fewest_coils T.F_fewest_coils.kp T.b_fewest_coils px econst_p (da_cons (de_v 2) (da_cons (de_v 0) da_nil))) (de_v 1)) (dss_one (ds_ret (de_v 2))) dss_nil))) (dss_one (ds_ret de_non)))))
theorem ok_law (T : Top Z base) : FnOk P w Z.K Z.mg base (L2.CX P w) 8 T.a_law T.d_law ["script"] (spP Z 1 m_law) := okP (N := N_law) T.F_law sc_law fun cdv A outer s Y H E hr => by
  have px : PX (cxOf (L2.CX P w) P w Z.K Z.mg base N_law "law" (defScope s_law) T.a_law cdv A outer s H E) (Gp Y H E) := px_of (takes_of rfl rfl rfl rfl)
  have hpo : PassesOwn (model P w) (cxOf (L2.CX P w) P w Z.K Z.mg base N_law "law" (defScope s_law) T.a_law cdv A outer s H E).A (cxOf (L2.CX P w) P w Z.K Z.mg base N_law "law" (defScope s_law) T.a_law cdv A outer s H E).env (cxOf (L2.CX P w) P w Z.K Z.mg base N_law "law" (defScope s_law) T.a_law cdv A outer s H E).xe := passes_of rfl
  have hu64 := hr.units
  have hu65 := room65 hr
  have hu80 := room80 hr
  have hu1 := room1 hr
  exact (dss_cons (ds_own 1 (dr_lst (da_cons (de_v 0) (da_cons de_int (da_cons de_int (da_cons de_int da_nil))))) sc_law.nd) (dss_cons (ds_for hpo rfl (di_rng1 (by rfl) T.z_range (da_cons de_int da_nil)) (dg_n (i := 2) sc_law.nd) (dss_cons (ds_asg (de_bin (od_add rfl) de_int (de_callO 1 (ok__law_taken T) (hr.mono (by decide)) (by rfl) T.g__law_taken T.F__law_taken.kp T.b__law_taken px econst_p (da_cons (de_callO 1 (ok__law_pick T) (hr.mono (by decide)) (by rfl) T.g__law_pick T.F__law_pick.kp T.b__law_pick px econst_p (da_cons (de_lst (da_cons de_int (da_cons de_int (da_cons de_int da_nil)))) da_nil)) da_nil))) (dg_n (i := 3) sc_law.nd)) (dss_cons (ds_asg (de_callO 1 (ok__law_pieces T) (hr.mono (by decide)) (by rfl) T.g__law_pieces T.F__law_pieces.kp T.b__law_pieces px econst_p (da_cons (de_v 3) (da_cons (de_callO 1 (ok__law_pick T) (hr.mono (by decide)) (by rfl) T.g__law_pick T.F__law_pick.kp T.b__law_pick px econst_p (da_cons (de_lst (da_cons de_int (da_cons de_int (da_cons de_int (da_cons de_int da_nil))))) da_nil)) da_nil))) (dg_n (i := 4) sc_law.nd)) (dss_cons (ds_par2 5 6 (dar_cons (dr_d (de_call (ok__law_coils T) (hr.mono (by decide)) (by rfl) T.g__law_coils T.F__law_coils.kp T.b__law_coils px econst_p (da_cons (de_v 3) (da_cons (de_v 4) da_nil)))) fun _ _ => (dar_cons (dr_d (de_call (ok_cutting T) (hr.mono (by decide)) (by rfl) T.g_cutting T.F_cutting.kp T.b_cutting (px_hold px) (econst_hold econst_p) (da_cons (de_v 3) (da_cons (de_v 4) da_nil)))) fun _ _ => dar_nil)) rfl sc_law.nd) (dss_cons (ds_if (dt_bool (dw_or (dt_not (dt_val (de_call (ok__law_alike T 3) (hr.mono (by decide)) (by rfl) T.g__law_alike T.F__law_alike.kp T.b__law_alike px econst_p (da_cons (de_call (ok_fewest_coils T) (hr.mono (by decide)) (by rfl) T.g_fewest_coils T.F_fewest_coils.kp T.b_fewest_coils px econst_p (da_cons (de_v 3) (da_cons (de_v 4) da_nil))) (da_cons (de_v 5) da_nil))))) (dw_or (dt_not (dt_val (de_isi rfl (by rfl) T.z_isinstance (by rfl) T.z_tuple (by decide +kernel) (de_v 6)))) (dw_or (dt_cmp bl_ne (od_ne rfl hu64) (de_callB (od_len rfl) (by rfl) T.z_len (by decide +kernel) (da_cons (de_v 6) da_nil)) (de_v 5)) (dw_or1 (dt_cmp bl_ne (od_ne rfl hu64) (de_callT (od_list rfl) (by rfl) T.z_list (by decide +kernel) (da_cons (de_v 6) da_nil)) (de_callB (od_sorted rfl hu80) (by rfl) T.z_sorted (by decide +kernel) (da_cons (de_v 6) da_nil)))))))) (dss_one (ds_ret de_bl)) dss_nil) (dss_cons (ds_own 7 (dr_lst da_nil) sc_law.nd) (dss_cons (ds_for hpo rfl (di_seq rfl (de_v 6)) (dg_n (i := 8) sc_law.nd) (dss_cons (ds_if (dt_bool (dw_or (dt_cmp bl_eq (od_eq rfl hu64) (de_v 8) (de_tup da_nil)) (dw_or (dt_cmp bl_ne (od_ne rfl hu64) (de_callT (od_list rfl) (by rfl) T.z_list (by decide +kernel) (da_cons (de_v 8) da_nil)) (de_callB (od_sorted rfl hu80) (by rfl) T.z_sorted (by decide +kernel) (da_cons (de_v 8) da_nil))) (dw_or1 (dt_cmp bl_gt od_gt (de_callB (od_sumT rfl rfl) (by rfl) T.z_sum (by decide +kernel) (da_cons (de_lc (own := [("k", 11)]) rfl sc_law.nd (di_seq rfl (de_v 8)) (blkOk_by (own := [("k", 11)]) (N := N_law) (sc := defScope s_law) (by decide +kernel)) (by decide) rfl (fun _ _ _ _ _ _ => (dg_n (i := 11) sc_law.nd)) (fun _ _ _ _ _ _ => dts_nil) (fun _ _ _ _ _ _ => (de_ix (od_ix2 rfl hu1) (de_v 4) (de_v 11)))) da_nil)) (de_v 3)))))) (dss_one (ds_ret de_bl)) dss_nil) (dss_one (ds_ext 7 (de_callT (od_list rfl) (by rfl) T.z_list (by decide +kernel) (da_cons (de_v 8) da_nil)))))) (dss_cons (ds_if (dt_bool (dw_or (dt_cmp bl_ne (od_ne rfl hu64) (de_callB (od_sorted rfl hu80) (by rfl) T.z_sorted (by decide +kernel) (da_cons (de_v 7) da_nil)) (de_lrg1 rfl (by rfl) T.z_list (by rfl) T.z_range (de_callB (od_len rfl) (by rfl) T.z_len (by decide +kernel) (da_cons (de_v 4) da_nil)))) (dw_or1 (dt_cmp bl_notB od_notB (de_call (ok_is_cutting T) (hr.mono (by decide)) (by rfl) T.g_is_cutting T.F_is_cutting.kp T.b_is_cutting px econst_p (da_cons (de_v 3) (da_cons (de_v 4) (da_cons (de_v 6) da_nil)))) de_bl)))) (dss_one (ds_ret de_bl)) dss_nil) (dss_one (ds_if (dt_not (dt_val (de_call (ok__law_alike T 3) (hr.mono (by decide)) (by rfl) T.g__law_alike T.F__law_alike.kp T.b__law_alike px econst_p (da_cons (de_call (ok_waste T) (hr.mono (by decide)) (by rfl) T.g_waste T.F_waste.kp T.b_waste px econst_p (da_cons (de_v 3) (da_cons (de_v 4) (da_cons (de_v 6) da_nil)))) (da_cons (de_bin od_sub (de_bin od_mul (de_v 5) (de_v 3)) (de_callB (od_sumT rfl rfl) (by rfl) T.z_sum (by decide +kernel) (da_cons (de_v 4) da_nil))) da_nil))))) (dss_one (ds_ret de_bl)) dss_nil)))))))))) (dss_cons (ds_parT rfl (dar_cons (dr_d (de_callO 1 (ok__law_pieces T) (hr.mono (by decide)) (by rfl) T.g__law_pieces T.F__law_pieces.kp T.b__law_pieces px econst_p (da_cons de_int (da_cons de_int da_nil)))) fun _ _ => (dar_cons (dr_d (de_callO 1 (ok__law_taken T) (hr.mono (by decide)) (by rfl) T.g__law_taken T.F__law_taken.kp T.b__law_taken (px_hold px) (econst_hold econst_p) (da_cons de_int da_nil))) fun _ _ => dar_nil)) (gns_cons (i := 4) sc_law.nd (gns_cons (i := 9) sc_law.nd gns_nil)) rfl) (dss_cons (ds_asg (de_if (dt_bool (dw_or (dt_cmp bl_gt od_gt (de_v 9) de_int) (dw_or1 (dt_cmp bl_eq (od_eq rfl hu64) (de_v 4) (de_tup da_nil))))) (de_lc (own := [("size", 12)]) rfl sc_law.nd (di_rng2 (by rfl) T.z_range (da_cons (de_callB (od_maxT rfl rfl) (by rfl) T.z_max (by decide +kernel) (da_cons (de_bin (od_add rfl) (de_tup (da_cons de_int da_nil)) (de_v 4)) da_nil)) (da_cons de_int da_nil))) (blkOk_by (own := [("size", 12)]) (N := N_law) (sc := defScope s_law) (by decide +kernel)) (by decide) rfl (fun _ _ _ _ _ _ => (dg_n (i := 12) sc_law.nd)) (fun _ _ _ _ _ _ => (dts_one (dt_cmp bl_le od_le (de_call (ok__law_coils T) (hr.mono (by decide)) (by rfl) T.g__law_coils T.F__law_coils.kp T.b__law_coils (px_never fun _ _ _ _ h => h) (econst_f fun _ _ _ _ h => h) (da_cons (de_v 12) (da_cons (de_v 4) da_nil))) (de_v 9)))) (fun _ _ _ _ _ _ => (de_v 12))) (de_lst da_nil)) (dg_n (i := 10) sc_law.nd)) (dss_one (ds_ret (de_call (ok__law_alike T 3) (hr.mono (by decide)) (by rfl) T.g__law_alike T.F__law_alike.kp T.b__law_alike px econst_p (da_cons (de_call (ok_least_coil T) (hr.mono (by decide)) (by rfl) T.g_least_coil T.F_least_coil.kp T.b_least_coil px econst_p (da_cons (de_v 4) (da_cons (de_v 9) da_nil))) (da_cons (de_if (dt_cmp bl_ne (od_ne rfl hu64) (de_v 10) (de_lst da_nil)) (de_ix (od_ix2 rfl hu1) (de_v 10) de_int) de_non) da_nil)))))))))
end
end PD

set_option linter.all false
set_option maxRecDepth 100000
set_option maxHeartbeats 1000000
/-! PD40: for the plain laws: loops by invariants, data of ints, sorted. -/
namespace PD
open PySem PySem.Spec PyProof.Rows L2

/-- a loop that runs through -/
theorem forD_inv {t : D → S → R Unit} {f : S → SR} (I : Nat → S → Prop) : ∀ {ds : List D} {k : Nat} {s : S}, I k s → (∀ i d s, ds[i]? = some d → I (k + i) s → ∃ s1, t d s = .ok () s1 ∧ ∃ s2, f s1 = .nx s2 ∧ I (k + i + 1) s2) → ∃ s', forD t f ds s = .nx s' ∧ I (k + ds.length) s'
  | [], k, s, h, _ => ⟨s, rfl, h⟩
  | d :: ds, k, s, h, hs => by
    obtain ⟨s1, e1, s2, e2, h2⟩ := hs 0 d s rfl h
    obtain ⟨s', e', h'⟩ := forD_inv (k := k + 1) (s := s2) I (ds := ds) h2 fun i d' s0 hd hI => by
      have := hs (i + 1) d' s0 (by simpa using hd) (by rw [show k + (i + 1) = k + 1 + i by omega]; exact hI)
      rwa [show k + (i + 1) + 1 = k + 1 + i + 1 by omega] at this
    refine ⟨s', ?_, by rw [List.length_cons, show k + (ds.length + 1) = k + 1 + ds.length by omega]; exact h'⟩
    simp only [forD, e1, tgo_ok, e2]
    exact e'
/-- .. or returns at the first place j -/
theorem forD_first {t : D → S → R Unit} {f : S → SR} (I : Nat → S → Prop) {r : Rv} {j : Nat} {s' : S} : ∀ {ds : List D} {k : Nat} {s : S} {dj : D}, I k s → ds[j]? = some dj → (∀ i d s, i < j → ds[i]? = some d → I (k + i) s → ∃ s1, t d s = .ok () s1 ∧ ∃ s2, f s1 = .nx s2 ∧ I (k + i + 1) s2) →
    (∀ s, I (k + j) s → ∃ s1, t dj s = .ok () s1 ∧ ∃ s2, f s1 = .rt r s2) → ∃ s', forD t f ds s = .rt r s' := by
  induction j with
  | zero =>
    intro ds k s dj h hd _ hl
    cases ds with
    | nil => cases hd
    | cons d ds =>
      cases hd
      obtain ⟨s1, e1, s2, e2⟩ := hl s h
      exact ⟨s2, by simp only [forD, e1, tgo_ok, e2]⟩
  | succ j ih =>
    intro ds k s dj h hd hs hl
    cases ds with
    | nil => cases hd
    | cons d ds =>
      obtain ⟨s1, e1, s2, e2, h2⟩ := hs 0 d s (Nat.zero_lt_succ _) rfl h
      obtain ⟨s', e'⟩ := ih (ds := ds) (k := k + 1) (s := s2) (dj := dj) h2 (by simpa using hd) (fun i d' s0 hi hd' hI => by
        have := hs (i + 1) d' s0 (by omega) (by simpa using hd') (by rw [show k + (i + 1) = k + 1 + i by omega]; exact hI)
        rwa [show k + (i + 1) + 1 = k + 1 + i + 1 by omega] at this) (fun s0 hI => hl s0 (by rw [show k + (j + 1) = k + 1 + j by omega]; exact hI))
      exact ⟨s', by simp only [forD, e1, tgo_ok, e2]; exact e'⟩

/-! ### data of ints -/
abbrev iD (ns : List Int) : List D := ns.map D.int
abbrev rD_ (rs : List (List Int)) : List D := rs.map fun r => D.tup (iD r)
theorem toPL_int : ∀ ns : List Int, toPL (iD ns) = some (ns.map .int)
  | [] => by simp [toPL]
  | n :: ns => by simp [toPL, D.toP, toPL_int ns]
theorem toPL_rows : ∀ rs : List (List Int), toPL (rD_ rs) = some (rs.map fun r => .tuple (r.map .int))
  | [] => by simp [toPL]
  | r :: rs => by simp [toPL, D.toP, toPL_int, toPL_rows rs]
theorem canLay_int : ∀ ns : List Int, PyData.canLayAll0 (ns.map .int) = true
  | [] => by simp [PyData.canLayAll0]
  | n :: ns => by simp [PyData.canLayAll0, PyData.canLay0, canLay_int ns]
theorem canLay_rows : ∀ rs : List (List Int), PyData.canLayAll0 (rs.map fun r => .tuple (r.map .int)) = true
  | [] => by simp [PyData.canLayAll0]
  | r :: rs => by simp [PyData.canLayAll0, PyData.canLay0, canLay_int, canLay_rows rs]
theorem depth_int : ∀ ns : List Int, PyData.depthAll (ns.map .int) ≤ 1
  | [] => by simp [PyData.depthAll]
  | n :: ns => by have := depth_int ns; simp [PyData.depthAll, PyData.depth]; omega
theorem depth_rows : ∀ rs : List (List Int), PyData.depthAll (rs.map fun r => .tuple (r.map .int)) ≤ 3
  | [] => by simp [PyData.depthAll]
  | r :: rs => by have := depth_rows rs; have := depth_int r; simp [PyData.depthAll, PyData.depth]; omega
theorem dok_i (i : Int) : dok (.int i) = some (.int i) := by simp [dok, D.toP, SeqAt.shaped, PyData.canLay0, PyData.depth]
theorem dok_tI (ns : List Int) : dok (.tup (iD ns)) = some (.tuple (ns.map .int)) := by
  have := depth_int ns
  simp only [dok, D.toP, toPL_int, Option.map_some, Option.bind_some, SeqAt.shaped, PyData.canLay0, canLay_int, PyData.depth, Bool.true_and]
  rw [if_pos (by simpa using by omega)]
theorem dok_lI (ns : List Int) : dok (.lst (iD ns)) = some (.list (ns.map .int)) := by
  have := depth_int ns
  simp only [dok, D.toP, toPL_int, Option.map_some, Option.bind_some, SeqAt.shaped, PyData.canLay0, canLay_int, PyData.depth, Bool.true_and]
  rw [if_pos (by simpa using by omega)]
theorem dok_lR (rs : List (List Int)) : dok (.lst (rD_ rs)) = some (.list (rs.map fun r => .tuple (r.map .int))) := by
  have := depth_rows rs
  simp only [dok, D.toP, toPL_rows, Option.map_some, Option.bind_some, SeqAt.shaped, PyData.canLay0, canLay_rows, PyData.depth, Bool.true_and]
  rw [if_pos (by simpa using by omega)]
theorem eqv_self {d : D} {p : PyData} (h : dok d = some p) : PyData.eqv p p = true := by
  unfold dok at h
  cases e : d.toP with
  | none => rw [e] at h; cases h
  | some q =>
    rw [e] at h
    simp only [Option.bind_some] at h
    split at h
    · rename_i hs
      cases h
      exact SeqAt.eqv_refl _ (SeqAt.canLay_of_shaped hs)
    · cases h
theorem gEq_self {d : D} {p : PyData} (h : dok d = some p) : gEq [d, d] = some (.bl true) := by simp [gEq, h, eqv_self h]
theorem gNe_self {d : D} {p : PyData} (h : dok d = some p) : gNe [d, d] = some (.bl false) := by simp [gNe, h, eqv_self h]
theorem gEq_int (i j : Int) : gEq [.int i, .int j] = some (.bl (decide (i = j))) := by
  simp only [gEq, dok_i, Option.bind_some, PyData.eqv]
  by_cases h : i = j <;> simp [h]
theorem gNe_int (i j : Int) : gNe [.int i, .int j] = some (.bl (decide (i ≠ j))) := by
  simp only [gNe, dok_i, Option.bind_some, PyData.eqv]
  by_cases h : i = j <;> simp [h]
theorem eqvAll_int : ∀ ns ms : List Int, PyData.eqvAll (ns.map .int) (ms.map .int) = decide (ns = ms)
  | [], [] => by simp [PyData.eqvAll]
  | [], m :: ms => by simp [PyData.eqvAll]
  | n :: ns, [] => by simp [PyData.eqvAll]
  | n :: ns, m :: ms => by simp only [List.map_cons, PyData.eqvAll, PyData.eqv, eqvAll_int ns ms]; by_cases h : n = m <;> by_cases h2 : ns = ms <;> simp [h, h2]
theorem gEq_tI (ns ms : List Int) : gEq [.tup (iD ns), .tup (iD ms)] = some (.bl (decide (ns = ms))) := by
  simp only [gEq, dok_tI, Option.bind_some, PyData.eqv, eqvAll_int]
theorem gNe_tI (ns ms : List Int) : gNe [.tup (iD ns), .tup (iD ms)] = some (.bl (!decide (ns = ms))) := by
  simp only [gNe, dok_tI, Option.bind_some, PyData.eqv, eqvAll_int]
/-! ### sorted -/
theorem enc_i (i : Int) : encD (.int i) = .int i := by simp [encD, D.toP]
theorem enc_tI (ns : List Int) : encD (.tup (iD ns)) = .tuple (ns.map .int) := by simp [encD, D.toP, toPL_int]
noncomputable def srt (ns : List Int) : List Int := ns.mergeSort fun a b => decide (a ≤ b)
theorem srt_perm (ns : List Int) : (srt ns).Perm ns := List.mergeSort_perm _ _
theorem sortD_int (ns : List Int) : sortD (iD ns) = iD (srt ns) := by
  unfold sortD srt
  refine (List.map_mergeSort (f := D.int) (fun a _ b _ => ?_)).symm
  have h := congrFun (congrFun (PySem.W.dataLe_int (fun i : Int => i)) a) b
  rw [← h]
  show PySem.W.dataLe false (fun b => PyData.int b) a b = PySem.W.sortLe _ false _ _ _
  unfold PySem.W.dataLe PySem.W.sortLe
  simp only [enc_i]
theorem srt_pairwise (ns : List Int) : (srt ns).Pairwise (· ≤ ·) := by
  have := List.pairwise_mergeSort (le := fun a b : Int => decide (a ≤ b)) (fun a b c h1 h2 => by simp at *; omega) (fun a b => by simp; omega) ns
  exact this.imp fun h => by simpa using h
theorem srt_of {ns : List Int} (h : ns.Pairwise (· ≤ ·)) : srt ns = ns := List.mergeSort_of_pairwise (h.imp fun h => by simpa using h)
theorem srt_srt (ns : List Int) : srt (srt ns) = srt ns := srt_of (srt_pairwise ns)
theorem srt_eq {ns ms : List Int} (h : ns.Perm ms) (hm : ms.Pairwise (· ≤ ·)) : srt ns = ms :=
  ((srt_perm ns).trans h).eq_of_pairwise (le := (· ≤ ·)) (fun a b _ _ h1 h2 => Int.le_antisymm h1 h2) (srt_pairwise ns) hm
theorem sok_int {ns : List Int} (h : ns.length ≤ lim) : sok (iD ns) = true := by
  unfold sok
  simp only [Bool.and_eq_true, List.all_eq_true, List.mem_map, Bool.or_eq_true, decide_eq_true_eq, List.length_map]
  refine ⟨⟨⟨?_, ?_⟩, .inr ?_⟩, h⟩
  · rintro d ⟨i, _, rfl⟩; rw [dok_i]; rfl
  · rintro d ⟨i, _, rfl⟩ e ⟨j, _, rfl⟩; rw [enc_i, enc_i]; rfl
  · rintro d ⟨i, _, rfl⟩; rw [enc_i]; rfl
theorem gSorted_lI {ns : List Int} (h : ns.length ≤ lim) : gSorted [.lst (iD ns)] = some (.lst (iD (srt ns))) := by
  simp only [gSorted, sok_int h, if_true, sortD_int]
theorem gSorted_tI {ns : List Int} (h : ns.length ≤ lim) : gSorted [.tup (iD ns)] = some (.lst (iD (srt ns))) := by
  simp only [gSorted, sok_int h, if_true, sortD_int]
theorem alike_int : ∀ ns ms : List Int, PySem.W.alikeAll (ns.map .int) (ms.map .int) = true
  | [], _ => by simp [PySem.W.alikeAll]
  | n :: ns, [] => by simp [PySem.W.alikeAll]
  | n :: ns, m :: ms => by simp [PySem.W.alikeAll, PySem.W.alike, alike_int ns ms]
theorem sok_rows {rs : List (List Int)} (h : rs.length ≤ lim) (hn : ∀ r ∈ rs, r ≠ []) : sok (rD_ rs) = true := by
  unfold sok
  simp only [Bool.and_eq_true, List.all_eq_true, List.mem_map, Bool.or_eq_true, decide_eq_true_eq, List.length_map]
  refine ⟨⟨⟨?_, ?_⟩, .inl ?_⟩, h⟩
  · rintro d ⟨i, _, rfl⟩; rw [dok_tI]; rfl
  · rintro d ⟨i, _, rfl⟩ e ⟨j, _, rfl⟩; rw [enc_tI, enc_tI, PySem.W.alike]; exact alike_int i j
  · rintro d ⟨r, hr, rfl⟩
    rw [enc_tI]
    cases r with
    | nil => exact absurd rfl (hn [] hr)
    | cons n r => rfl
noncomputable def leR (a b : List Int) : Bool := PySem.W.dataLe false encD (.tup (iD a)) (.tup (iD b))
noncomputable def srtR (rs : List (List Int)) : List (List Int) := rs.mergeSort leR
theorem srtR_perm (rs : List (List Int)) : (srtR rs).Perm rs := List.mergeSort_perm _ _
theorem sortD_rows (rs : List (List Int)) : sortD (rD_ rs) = rD_ (srtR rs) := by
  unfold sortD srtR
  exact (List.map_mergeSort (f := fun r : List Int => D.tup (iD r)) (fun a _ b _ => rfl)).symm
theorem srtR_srtR (rs : List (List Int)) : srtR (srtR rs) = srtR rs := by
  have T := PySem.W.sortLe_total (listOrd itemOrd) false fun d : D => PySem.W.keyToks (encD d)
  have := List.pairwise_mergeSort (le := leR) (fun a b c h1 h2 => T.trans _ _ _ h1 h2) (fun a b => Bool.or_eq_true_iff.mpr (T.total _ _)) rs
  exact List.mergeSort_of_pairwise this
theorem gSorted_lR {rs : List (List Int)} (h : rs.length ≤ lim) (hn : ∀ r ∈ rs, r ≠ []) : gSorted [.lst (rD_ rs)] = some (.lst (rD_ (srtR rs))) := by
  simp only [gSorted, sok_rows h hn, if_true, sortD_rows]
theorem gSorted_tR {rs : List (List Int)} (h : rs.length ≤ lim) (hn : ∀ r ∈ rs, r ≠ []) : gSorted [.tup (rD_ rs)] = some (.lst (rD_ (srtR rs))) := by
  simp only [gSorted, sok_rows h hn, if_true, sortD_rows]
theorem allInt_iD : ∀ ns : List Int, allInt (iD ns) = some ns
  | [] => rfl
  | n :: ns => by simp [allInt, allInt_iD ns]
theorem atI_nat {α : Type} {xs : List α} {i : Nat} (h : i < xs.length) : atI xs (i : Int) = some xs[i] := by
  simp [atI, ixN, h]
theorem atI_last {α : Type} {xs : List α} {a : α} : atI (xs ++ [a]) (-1) = some a := by
  simp only [atI, ixN, List.length_append, List.length_singleton]
  rw [if_neg (by decide), if_pos (by push_cast; omega)]
  simp only [Option.bind_some]
  rw [show (-1 + ((xs.length + 1 : Nat) : Int)).toNat = xs.length by omega]
  simp
end PD

set_option linter.all false
set_option maxRecDepth 100000
set_option maxHeartbeats 1000000
/-! PD41: the mirrors' combinators as rules of simp. -/
namespace PD
open PySem PySem.Spec PyProof.Rows L2
section
variable {s : S} {f g : S → SR} {fa fb fc fe : S → R W} {fr : S → R Rv} {fs : S → R (List W)} {fi : S → R (List D)} {t : D → S → R Unit} {ts : List D → S → R Unit} {c c2 : S → R Bool} {i j n : Nat} {d : D} {ds : List D} {gg : List D → Option D}
@[simp] theorem x_seq : sSeq f g s = match f s with | .nx s1 => g s1 | r => r := rfl
@[simp] theorem x_own : sOwn i fr s = sBind (fr s) fun r s1 => if i < s1.length then .nx (s1.set i r.sl) else .st := rfl
@[simp] theorem x_for : sFor t fi f s = sBind (fi s) fun ds s1 => forD t f ds s1 := rfl
@[simp] theorem x_if : sIf c f g s = sBind (c s) fun b s1 => if b = true then f s1 else g s1 := rfl
@[simp] theorem x_ret : sRet fa s = sBind (fa s) fun w s1 => match fzW w with | some d => .rt (.d d) s1 | none => .st := rfl
@[simp] theorem x_asg : sAsg t fa s = sBind (fa s) fun w s1 => match fzW w with | some d => tgo (t d s1) fun s2 => .nx s2 | none => .st := rfl
@[simp] theorem x_drop : sDrop fa s = sBind (fa s) fun _ s1 => .nx s1 := rfl
@[simp] theorem x_nil : sNil s = .nx s := rfl
@[simp] theorem x_retN : sRetN s = .rt (.d .non) s := rfl
@[simp] theorem x_app : sApp i fa s = if isOwnL s i then sBind (fa s) fun w s1 => match fzW w, s1[i]? with
  | some d, some (.ow (.lst ds)) => if ds.length < lim then .nx (s1.set i (.ow (.lst (ds ++ [d])))) else .st
  | _, _ => .st else .st := rfl
@[simp] theorem x_ext : sExt i fa s = if isOwnL s i then sBind (fa s) fun w s1 => match fzW w, s1[i]? with
  | some (.lst es), some (.ow (.lst ds)) => if ds.length + es.length ≤ lim then .nx (s1.set i (.ow (.lst (ds ++ es)))) else .st
  | _, _ => .st else .st := rfl
@[simp] theorem x_eV : eV i s = match s[i]? with | some (.fz d) => .ok (.d d) s | some (.ow _) => .ok (.p i) s | _ => .st := rfl
@[simp] theorem x_eC : eC d s = .ok (.d d) s := rfl
@[simp] theorem x_eUn : eUn gg fa s = (fa s).bind fun w s1 => ofO s1 ((rdW s1 w).bind fun d => (gg [d]).map W.d) := rfl
@[simp] theorem x_eBin : eBin gg fa fb s = (fa s).bind fun w s1 => (fb s1).bind fun u s2 => ofO s2 ((rdL s2 [w, u]).bind fun ds => (gg ds).map W.d) := rfl
@[simp] theorem x_eApp : eApp gg fs s = (fs s).bind fun ws s1 => ofO s1 ((rdL s1 ws).bind fun ds => (gg ds).map W.d) := rfl
@[simp] theorem x_aNil : aNil s = .ok [] s := rfl
@[simp] theorem x_aCons : aCons fa fs s = (fa s).bind fun w s1 => (fs s1).bind fun ws s2 => .ok (w :: ws) s2 := rfl
@[simp] theorem x_eIf : eIf c fa fb s = (c s).bind fun b s1 => if b = true then fa s1 else fb s1 := rfl
@[simp] theorem x_cVal : cVal fa s = (fa s).bind fun w s1 => ofO s1 ((rdW s1 w).bind truD) := rfl
@[simp] theorem x_cAnd : cAnd c c2 s = (c s).bind fun b s1 => if b = true then c2 s1 else .ok false s1 := rfl
@[simp] theorem x_cOr : cOr c c2 s = (c s).bind fun b s1 => if b = true then .ok true s1 else c2 s1 := rfl
@[simp] theorem x_cNot : cNot c s = (c s).bind fun b s1 => .ok (!b) s1 := rfl
@[simp] theorem x_eAnd : eAnd fa fb s = (fa s).bind fun w s1 => match w with | .d (.bl true) => fb s1 | .d (.bl false) => .ok (.d (.bl false)) s1 | _ => .st := rfl
@[simp] theorem x_eOr : eOr fa fb s = (fa s).bind fun w s1 => match w with | .d (.bl false) => fb s1 | .d (.bl true) => .ok (.d (.bl true)) s1 | _ => .st := rfl
@[simp] theorem x_eTup : eTup fs s = (fs s).bind fun ws s1 => ofO s1 ((fzL ws).bind fun ds => if ds.length ≤ 1000000 then some (W.d (.tup ds)) else none) := rfl
@[simp] theorem x_eLst : eLst fs s = (fs s).bind fun ws s1 => ofO s1 ((fzL ws).bind fun ds => if ds.length ≤ 1000000 then some (W.d (.lst ds)) else none) := rfl
@[simp] theorem x_eMv : eMv i s = match s[i]? with | some (.ow o) => .ok (.d o.toD) (s.set i (.fz o.toD)) | some (.fz d) => .ok (.d d) s | _ => .st := rfl
@[simp] theorem x_eFz : eFz fr s = (fr s).bind fun r s1 => .ok (.d r.toD) s1 := rfl
@[simp] theorem x_rLst : rLst fs s = (fs s).bind fun ws s1 => ofO s1 ((fzL ws).bind fun ds => if ds.length ≤ 1000000 then some (Rv.o (.lst ds)) else none) := rfl
@[simp] theorem x_rDat : rDat fa s = (fa s).bind fun w s1 => ofO s1 ((fzW w).map .d) := rfl
@[simp] theorem x_rNil : rNil s = .ok [] s := rfl
@[simp] theorem x_rCons {h : S → R (List Rv)} : rCons fr h s = (fr s).bind fun r s1 => (h s1).bind fun rs s2 => .ok (r :: rs) s2 := rfl
@[simp] theorem x_iSeq : iSeq fa s = (fa s).bind fun w s1 => ofO s1 (seqD w) := rfl
@[simp] theorem x_iOf {h : List W → Option (List D)} : iOf h fs s = (fs s).bind fun ws s1 => ofO s1 (h ws) := rfl
@[simp] theorem x_gN : gN i d s = if i < s.length then .ok () (s.set i (.fz d)) else .st := rfl
@[simp] theorem x_gsNil : gsNil [] s = .ok () s := rfl
@[simp] theorem x_gsCons : gsCons t ts (d :: ds) s = (t d s).bind fun _ s1 => ts ds s1 := rfl
@[simp] theorem x_gT : gT n ts (.tup ds) s = if ds.length = n then ts ds s else .st := rfl
@[simp] theorem x_rCall {m : List D → FR} : rCall n m fs s = (fs s).bind fun ws s1 => match fzL ws with
  | some ds => if ds.length = n then (match m ds with
    | .ok r => .ok r s1
    | .er c ns es => .er c ns es s1
    | .st => .st) else .st
  | none => .st := rfl
@[simp] theorem x_eChain {g' : List D → Option D} : eChain gg g' fa fb fc s = (fa s).bind fun w s1 => (fb s1).bind fun u s2 => match (rdL s2 [w, u]).bind gg with
  | some (.bl true) => (fc s2).bind fun z s3 => ofO s3 ((rdL s3 [u, z]).bind fun ds => (g' ds).map W.d)
  | some (.bl false) => .ok (.d (.bl false)) s2
  | _ => .st := rfl
@[simp] theorem x_par2 {h : S → R (List Rv)} : sPar2 i j h s = sBind (h s) fun rs s1 => match rs with
  | [r1, r2] => if i < s1.length ∧ j < s1.length then .nx ((s1.set i r1.sl).set j r2.sl) else .st
  | _ => .st := rfl
@[simp] theorem x_yes : tYesD s = .ok true s := rfl
@[simp] theorem x_rdWd : rdW s (.d d) = some d := rfl
@[simp] theorem x_rdWp : rdW s (.p i) = match s[i]? with | some (.ow o) => some o.toD | some (.fz d) => some d | _ => none := rfl
@[simp] theorem x_fzWp : fzW (.p i) = none := rfl
@[simp] theorem x_rdL0 : rdL s [] = some [] := rfl
@[simp] theorem x_rdL {w : W} {ws : List W} : rdL s (w :: ws) = (rdW s w).bind fun d => (rdL s ws).bind fun ds => some (d :: ds) := rfl
@[simp] theorem x_fzW : fzW (.d d) = some d := rfl
@[simp] theorem x_fzL0 : fzL [] = some [] := rfl
@[simp] theorem x_fzL {w : W} {ws : List W} : fzL (w :: ws) = (fzW w).bind fun d => (fzL ws).bind fun ds => some (d :: ds) := rfl
@[simp] theorem x_slo {o : O} : (Rv.o o).sl = .ow o := rfl
@[simp] theorem x_sld : (Rv.d d).sl = .fz d := rfl
@[simp] theorem x_toDo {o : O} : (Rv.o o).toD = o.toD := rfl
@[simp] theorem x_toDd : (Rv.d d).toD = d := rfl
@[simp] theorem x_olst : (O.lst ds).toD = .lst ds := rfl
@[simp] theorem x_tru {b : Bool} : truD (.bl b) = some b := rfl
@[simp] theorem g_add {a b : Int} : gAdd [.int a, .int b] = some (.int (a + b)) := rfl
@[simp] theorem g_sub {a b : Int} : gSub [.int a, .int b] = some (.int (a - b)) := rfl
@[simp] theorem g_neg {a : Int} : gNeg [.int a] = some (.int (-a)) := rfl
@[simp] theorem g_le {a b : Int} : gLe [.int a, .int b] = some (.bl (decide (a ≤ b))) := rfl
@[simp] theorem g_gt {a b : Int} : gGt [.int a, .int b] = some (.bl (decide (a > b))) := rfl
@[simp] theorem g_ge {a b : Int} : gGe [.int a, .int b] = some (.bl (decide (a ≥ b))) := rfl
@[simp] theorem g_lenL : gLen [.lst ds] = some (.int ds.length) := rfl
@[simp] theorem g_lenT : gLen [.tup ds] = some (.int ds.length) := rfl
@[simp] theorem g_lenS {xs : List Int} : gLen [.scr xs] = some (.int xs.length) := rfl
@[simp] theorem g_ixL {a : Int} : gIx2 [.lst ds, .int a] = atI ds a := rfl
@[simp] theorem g_ixT {a : Int} : gIx2 [.tup ds, .int a] = atI ds a := rfl
@[simp] theorem g_ixS {xs : List Int} {a : Int} : gIx2 [.scr xs, .int a] = (atI xs a).map .int := rfl
@[simp] theorem g_int {a : Int} : gInt [.int a] = some (.int a) := rfl
@[simp] theorem g_list {ds : List D} : gList [.lst ds] = some (.lst ds) := rfl
@[simp] theorem g_listT {ds : List D} : gList [.tup ds] = some (.lst ds) := rfl
@[simp] theorem g_tup {ds : List D} : gTuple [.lst ds] = some (.tup ds) := rfl
@[simp] theorem g_tupT {ds : List D} : gTuple [.tup ds] = some (.tup ds) := rfl
@[simp] theorem g_max {a b : Int} : gMax [.int a, .int b] = some (.int (if b > a then b else a)) := rfl
@[simp] theorem g_not {b : Bool} : gNot [.bl b] = some (.bl (!b)) := rfl
@[simp] theorem g_seqL : seqD (.d (.lst ds)) = some ds := rfl
@[simp] theorem g_seqT : seqD (.d (.tup ds)) = some ds := rfl
theorem g_mod {a b : Int} (h : 0 < b) : gMod [.int a, .int b] = some (.int (a % b)) := by simp [gMod, h]
theorem small_of {b : Int} (h0 : 0 ≤ b) (h : b < 2 ^ 4000) : small b = true := by
  unfold small
  refine decide_eq_true ?_
  by_cases hz : b.natAbs = 0
  · rw [hz]; decide
  · exact (Nat.log2_lt hz).mpr (by omega)
theorem g_div {a b : Int} (h : 0 < b) (hb : b < 2 ^ 4000) : gDiv [.int a, .int b] = some (.int (a / b)) := by
  unfold gDiv
  simp only
  rw [if_pos ⟨h, small_of (by omega) hb⟩]
theorem g_mul {a b : Int} (ha : 0 ≤ a) (ha2 : a < 2 ^ 4000) (hb : 0 ≤ b) (hb2 : b < 2 ^ 4000) : gMul [.int a, .int b] = some (.int (a * b)) := by
  unfold gMul
  simp only
  rw [small_of ha ha2, small_of hb hb2]
  rfl
end
end PD

set_option linter.all false
/-! M1: packing pieces into coils: runs, packings, sums. -/
namespace K13
abbrev St := Int × Int
def step (coil : Int) (s : St) (p : Int) : St := if s.2 + p ≤ coil then (s.1, s.2 + p) else (s.1 + 1, p)
def run (coil : Int) (l : List Int) (s : St) : St := l.foldl (step coil) s
def le2 (s t : St) : Prop := s.1 < t.1 ∨ (s.1 = t.1 ∧ s.2 ≤ t.2)
theorem le2.refl (s : St) : le2 s s := .inr ⟨rfl, Int.le_refl _⟩
theorem le2.trans {s t u : St} (h : le2 s t) (k : le2 t u) : le2 s u := by
  unfold le2 at *; omega
theorem le2.anti {s t : St} (h : le2 s t) (k : le2 t s) : s = t := by
  unfold le2 at *
  have : s.1 = t.1 := by omega
  have : s.2 = t.2 := by omega
  exact Prod.ext (by omega) (by omega)
theorem step_mono {coil p : Int} {s t : St} (hp : 1 ≤ p) (ht : 0 ≤ t.2) (h : le2 s t) : le2 (step coil s p) (step coil t p) := by
  unfold le2 at *
  unfold step
  split <;> split <;> simp only <;> omega
theorem step_nn {coil p : Int} {s : St} (hp : 1 ≤ p) (ht : 0 ≤ s.2) : 0 ≤ (step coil s p).2 := by
  unfold step; split <;> simp only <;> omega
theorem run_mono {coil : Int} : ∀ {l : List Int} {s t : St}, (∀ p ∈ l, 1 ≤ p) → 0 ≤ t.2 → le2 s t → le2 (run coil l s) (run coil l t)
  | [], _, _, _, _, h => h
  | p :: l, s, t, hl, ht, h => run_mono (l := l) (fun q hq => hl q (List.mem_cons_of_mem _ hq)) (step_nn (hl p List.mem_cons_self) ht) (step_mono (hl p List.mem_cons_self) ht h)
/-- a bin that fits, behind (a, q) at most -/
theorem run_bin {coil : Int} : ∀ {l : List Int} {s : St} {a q : Int}, (∀ p ∈ l, 1 ≤ p) → 0 ≤ q → q + l.sum ≤ coil → le2 s (a, q) → le2 (run coil l s) (a, q + l.sum)
  | [], s, a, q, _, _, _, h => by simpa [run] using h
  | p :: l, s, a, q, hl, hq, hs, h => by
    rw [List.sum_cons] at hs ⊢
    have h1 := hl p List.mem_cons_self
    have nn : ∀ {l : List Int}, (∀ p ∈ l, 1 ≤ p) → 0 ≤ l.sum := by
      intro l
      induction l with
      | nil => intro _; simp
      | cons x l ih => intro h; rw [List.sum_cons]; have := ih (fun q hq => h q (List.mem_cons_of_mem _ hq)); have := h x List.mem_cons_self; omega
    have h2 := nn (fun q hq => hl q (List.mem_cons_of_mem _ hq))
    have e : step coil (a, q) p = (a, q + p) := by unfold step; rw [if_pos (by simp only; omega)]
    have m := step_mono (coil := coil) h1 (show (0 : Int) ≤ (a, q).2 from hq) h
    rw [e] at m
    have r := run_bin (l := l) (a := a) (q := q + p) (fun q hq => hl q (List.mem_cons_of_mem _ hq)) (by omega) (show q + p + l.sum ≤ coil by omega) m
    show le2 (run coil l (step coil s p)) _
    rw [show q + (p + l.sum) = q + p + l.sum by omega]
    exact r
/-- a new bin -/
theorem run_new {coil : Int} {l : List Int} {s : St} {a : Int} (hl : ∀ p ∈ l, 1 ≤ p) (hn : l ≠ []) (hs : l.sum ≤ coil) (h : s.1 ≤ a) : (run coil l s).1 ≤ a + 1 := by
  cases l with
  | nil => exact absurd rfl hn
  | cons p l =>
    rw [List.sum_cons] at hs
    have h1 := hl p List.mem_cons_self
    have h0 : le2 (step coil s p) (a + 1, p) := by
      unfold le2 step
      split <;> simp only <;> omega
    have := run_bin (l := l) (a := a + 1) (q := p) (fun q hq => hl q (List.mem_cons_of_mem _ hq)) (by omega) hs h0
    show (run coil l (step coil s p)).1 ≤ a + 1
    unfold le2 at this
    simp only at this
    omega
structure Pack (coil : Int) (l : List Int) (bins : List (List Int)) : Prop where
  perm : bins.flatten.Perm l
  ne : ∀ b ∈ bins, b ≠ []
  le : ∀ b ∈ bins, b.sum ≤ coil
theorem run_bins {coil : Int} : ∀ {bins : List (List Int)} {s : St} {a : Int}, (∀ b ∈ bins, (∀ p ∈ b, 1 ≤ p) ∧ b ≠ [] ∧ b.sum ≤ coil) → s.1 ≤ a → (run coil bins.flatten s).1 ≤ a + bins.length
  | [], s, a, _, h => by simpa [run] using h
  | b :: bins, s, a, hb, h => by
    have h1 := hb b List.mem_cons_self
    have r := run_new (coil := coil) h1.1 h1.2.1 h1.2.2 h
    have r2 := run_bins (bins := bins) (fun c hc => hb c (List.mem_cons_of_mem _ hc)) r
    have e : run coil (b :: bins).flatten s = run coil bins.flatten (run coil b s) := by unfold run; rw [List.flatten_cons, List.foldl_append]
    rw [e, List.length_cons]
    push_cast
    omega
/-- a packing in k bins: some order runs into k coils at most -/
theorem pack_run {coil : Int} {l : List Int} {bins : List (List Int)} (hl : ∀ p ∈ l, 1 ≤ p) (h : Pack coil l bins) : ∃ l', l'.Perm l ∧ (run coil l' (0, coil)).1 ≤ bins.length :=
  ⟨bins.flatten, h.perm, by
    have := run_bins (coil := coil) (bins := bins) (s := (0, coil)) (a := 0) (fun b hb => ⟨fun p hp => hl p (h.perm.subset (List.mem_flatten.mpr ⟨b, hb, hp⟩)), h.ne b hb, h.le b hb⟩) (Int.le_refl _)
    omega⟩
/-- a run tells a packing -/
theorem run_pack {coil : Int} : ∀ {l : List Int} {done : List Int} {bins : List (List Int)} {cur : List Int} {s : St}, (∀ p ∈ l, 1 ≤ p ∧ p ≤ coil) → Pack coil done (cur :: bins) → s.1 = bins.length + 1 → s.2 = cur.sum →
    ∃ bins', Pack coil (done ++ l) bins' ∧ ((run coil l s).1 = bins'.length)
  | [], done, bins, cur, s, _, h, h1, h2 => ⟨cur :: bins, by rw [List.append_nil]; exact h, by show s.1 = _; rw [h1, List.length_cons]; push_cast; rfl⟩
  | p :: l, done, bins, cur, s, hl, h, h1, h2 => by
    have hp := hl p List.mem_cons_self
    have hl' : ∀ q ∈ l, 1 ≤ q ∧ q ≤ coil := fun q hq => hl q (List.mem_cons_of_mem _ hq)
    have pe : (done ++ [p]).Perm (p :: done) := by simpa using List.perm_append_comm (l₁ := done) (l₂ := [p])
    have ea : done ++ p :: l = (done ++ [p]) ++ l := by simp
    have er : run coil (p :: l) s = run coil l (step coil s p) := rfl
    rw [ea, er]
    by_cases hf : s.2 + p ≤ coil
    · have es : step coil s p = (s.1, s.2 + p) := by unfold step; rw [if_pos hf]
      refine run_pack (done := done ++ [p]) (bins := bins) (cur := p :: cur) hl' ⟨?_, fun b hb => ?_, fun b hb => ?_⟩ (by rw [es]; exact h1) (by rw [es, List.sum_cons]; simp only; omega)
      · have := h.perm
        rw [List.flatten_cons] at this ⊢
        exact (List.Perm.cons p this).trans pe.symm
      · rcases List.mem_cons.mp hb with rfl | hb
        · simp
        · exact h.ne b (List.mem_cons_of_mem _ hb)
      · rcases List.mem_cons.mp hb with rfl | hb
        · rw [List.sum_cons]; omega
        · exact h.le b (List.mem_cons_of_mem _ hb)
    · have es : step coil s p = (s.1 + 1, p) := by unfold step; rw [if_neg hf]
      refine run_pack (done := done ++ [p]) (bins := cur :: bins) (cur := [p]) hl' ⟨?_, fun b hb => ?_, fun b hb => ?_⟩ (by rw [es, List.length_cons]; simp only; push_cast; omega) (by rw [es]; simp)
      · have := h.perm
        rw [List.flatten_cons]
        exact (List.Perm.cons p this).trans pe.symm
      · rcases List.mem_cons.mp hb with rfl | hb
        · simp
        · exact h.ne b hb
      · rcases List.mem_cons.mp hb with rfl | hb
        · simpa using hp.2
        · exact h.le b hb
theorem run_pack0 {coil : Int} {l : List Int} (hl : ∀ p ∈ l, 1 ≤ p ∧ p ≤ coil) : ∃ bins, Pack coil l bins ∧ (run coil l (0, coil)).1 = bins.length := by
  cases l with
  | nil => exact ⟨[], ⟨by simp, fun b hb => (by cases hb), fun b hb => by cases hb⟩, rfl⟩
  | cons p l =>
    have hp := hl p List.mem_cons_self
    have es : step coil (0, coil) p = (1, p) := by unfold step; rw [if_neg (by simp only; omega)]; rfl
    have er : run coil (p :: l) (0, coil) = run coil l (1, p) := by show run coil l (step coil (0, coil) p) = _; rw [es]
    rw [er]
    exact run_pack (done := [p]) (bins := []) (cur := [p]) (fun q hq => hl q (List.mem_cons_of_mem _ hq)) ⟨by simp, fun b hb => by simp at hb; simp [hb], fun b hb => by simp at hb; simp [hb]; exact hp.2⟩ (by simp) (by simp)
/-! ### sums of bins -/
def Sums (coil : Int) (l cuts : List Int) : Prop := ∃ bins, Pack coil l bins ∧ (bins.map List.sum).Perm cuts
theorem Sums.perm {coil : Int} {l l' cuts cuts' : List Int} (h : Sums coil l cuts) (p : l.Perm l') (q : cuts.Perm cuts') : Sums coil l' cuts' := by
  obtain ⟨bins, h, e⟩ := h
  exact ⟨bins, ⟨h.perm.trans p, h.ne, h.le⟩, e.trans q⟩
theorem map_perm_inv {α β : Type} {f : α → β} {m m' : List β} (h : m.Perm m') : ∀ {l : List α}, l.map f = m → ∃ l' : List α, List.Perm l' l ∧ List.map f l' = m' := by
  induction h with
  | nil => intro l e; exact ⟨l, .refl _, e⟩
  | cons x _ ih =>
    intro l e
    cases l with
    | nil => cases e
    | cons y l =>
      simp only [List.map_cons, List.cons.injEq] at e
      obtain ⟨l', p, e'⟩ := ih e.2
      exact ⟨y :: l', p.cons y, by simp [e', e.1]⟩
  | swap x y l0 =>
    intro l e
    cases l with
    | nil => cases e
    | cons a l =>
      cases l with
      | nil => simp at e
      | cons b l =>
        simp only [List.map_cons, List.cons.injEq] at e
        exact ⟨b :: a :: l, .swap a b l, by simp [e.1, e.2.1, e.2.2]⟩
  | trans _ _ ih1 ih2 =>
    intro l e
    obtain ⟨l1, p1, e1⟩ := ih1 e
    obtain ⟨l2, p2, e2⟩ := ih2 e1
    exact ⟨l2, p2.trans p1, e2⟩
theorem Sums.add {coil : Int} {l A B : List Int} {c p : Int} (h : Sums coil l (A ++ c :: B)) (hf : c + p ≤ coil) : Sums coil (p :: l) (A ++ (c + p) :: B) := by
  obtain ⟨bins, h, e⟩ := h
  obtain ⟨bs, pb, eb⟩ := map_perm_inv e (l := bins) rfl
  obtain ⟨b1, b2, rfl, e1, e2⟩ := List.map_eq_append_iff.mp eb
  obtain ⟨b, b3, rfl, e3, e4⟩ := List.map_eq_cons_iff.mp e2
  refine ⟨b1 ++ (p :: b) :: b3, ⟨?_, fun x hx => ?_, fun x hx => ?_⟩, ?_⟩
  · have h1 : (b1 ++ b :: b3).flatten.Perm l := pb.flatten.trans h.perm
    rw [List.flatten_append, List.flatten_cons] at h1 ⊢
    have : (b1.flatten ++ (p :: b ++ b3.flatten)).Perm (p :: (b1.flatten ++ (b ++ b3.flatten))) := by
      rw [List.cons_append]
      exact List.perm_middle
    exact this.trans (h1.cons p)
  · rcases List.mem_append.mp hx with hx | hx
    · exact h.ne x (pb.subset (List.mem_append_left _ hx))
    · rcases List.mem_cons.mp hx with rfl | hx
      · simp
      · exact h.ne x (pb.subset (List.mem_append_right _ (List.mem_cons_of_mem _ hx)))
  · rcases List.mem_append.mp hx with hx | hx
    · exact h.le x (pb.subset (List.mem_append_left _ hx))
    · rcases List.mem_cons.mp hx with rfl | hx
      · rw [List.sum_cons, e3]; omega
      · exact h.le x (pb.subset (List.mem_append_right _ (List.mem_cons_of_mem _ hx)))
  · rw [List.map_append, List.map_cons, List.sum_cons, e1, e3, e4, Int.add_comm p c]
theorem Sums.new {coil : Int} {l A : List Int} {p : Int} (h : Sums coil l A) (hf : p ≤ coil) : Sums coil (p :: l) (A ++ [p]) := by
  obtain ⟨bins, h, e⟩ := h
  refine ⟨[p] :: bins, ⟨?_, fun x hx => ?_, fun x hx => ?_⟩, ?_⟩
  · rw [List.flatten_cons]; exact h.perm.cons p
  · rcases List.mem_cons.mp hx with rfl | hx
    · simp
    · exact h.ne x hx
  · rcases List.mem_cons.mp hx with rfl | hx
    · simpa using hf
    · exact h.le x hx
  · rw [List.map_cons]
    exact (List.Perm.cons _ e).trans (by simpa using (List.perm_append_comm (l₁ := [p]) (l₂ := A)))
/-- a packing of p and l comes from one of l -/
theorem Sums.out {coil : Int} {l cuts : List Int} {p : Int} (hl : ∀ q ∈ l, 1 ≤ q) (hp : 1 ≤ p) (h : Sums coil (p :: l) cuts) :
    (∃ A c B, Sums coil l (A ++ c :: B) ∧ c + p ≤ coil ∧ cuts.Perm (A ++ (c + p) :: B)) ∨ ∃ A, Sums coil l A ∧ cuts.Perm (A ++ [p]) := by
  obtain ⟨bins, h, e⟩ := h
  have hm : p ∈ bins.flatten := h.perm.symm.subset List.mem_cons_self
  obtain ⟨b, hb, hpb⟩ := List.mem_flatten.mp hm
  obtain ⟨B1, B2, rfl⟩ := List.append_of_mem hb
  obtain ⟨b1, b2, rfl⟩ := List.append_of_mem hpb
  have hsum : (b1 ++ p :: b2).sum = (b1 ++ b2).sum + p := by simp [List.sum_append]; omega
  have hle := h.le _ hb
  have pr : (B1.flatten ++ ((b1 ++ b2) ++ B2.flatten)).Perm l := by
    have h1 := h.perm
    rw [List.flatten_append, List.flatten_cons] at h1
    have h2 : (B1.flatten ++ (b1 ++ p :: b2 ++ B2.flatten)).Perm (p :: (B1.flatten ++ ((b1 ++ b2) ++ B2.flatten))) := by
      rw [List.append_assoc, List.cons_append, ← List.append_assoc]
      refine List.perm_middle.trans ?_
      rw [List.append_assoc, List.append_assoc]
    exact (h2.symm.trans h1).cons_inv
  by_cases hz : b1 ++ b2 = []
  · right
    refine ⟨(B1 ++ B2).map List.sum, ⟨B1 ++ B2, ⟨?_, fun x hx => ?_, fun x hx => ?_⟩, .refl _⟩, ?_⟩
    · rw [hz] at pr; simpa using pr
    · exact h.ne x (by rcases List.mem_append.mp hx with hx | hx <;> simp [hx])
    · exact h.le x (by rcases List.mem_append.mp hx with hx | hx <;> simp [hx])
    · refine e.symm.trans ?_
      rw [List.map_append, List.map_cons, hsum, hz, List.map_append]
      simp only [List.sum_nil, Int.zero_add]
      refine List.perm_middle.trans ?_
      simpa using (List.perm_append_comm (l₁ := [p]) (l₂ := B1.map List.sum ++ B2.map List.sum))
  · left
    refine ⟨B1.map List.sum, (b1 ++ b2).sum, B2.map List.sum, ⟨B1 ++ (b1 ++ b2) :: B2, ⟨?_, fun x hx => ?_, fun x hx => ?_⟩, ?_⟩, by omega, ?_⟩
    · rw [List.flatten_append, List.flatten_cons]; exact pr
    · rcases List.mem_append.mp hx with hx | hx
      · exact h.ne x (by simp [hx])
      · rcases List.mem_cons.mp hx with rfl | hx
        · exact hz
        · exact h.ne x (by simp [hx])
    · rcases List.mem_append.mp hx with hx | hx
      · exact h.le x (by simp [hx])
      · rcases List.mem_cons.mp hx with rfl | hx
        · omega
        · exact h.le x (by simp [hx])
    · rw [List.map_append, List.map_cons]
    · refine e.symm.trans ?_
      rw [List.map_append, List.map_cons, hsum]
theorem Sums.nil {coil : Int} : Sums coil [] [] := ⟨[], ⟨by simp, fun b hb => (by cases hb), fun b hb => by cases hb⟩, by simp⟩
theorem Sums.of_nil {coil : Int} {cuts : List Int} (h : Sums coil [] cuts) : cuts = [] := by
  obtain ⟨bins, h, e⟩ := h
  have : bins = [] := by
    cases bins with
    | nil => rfl
    | cons b bs =>
      have hn := h.ne b List.mem_cons_self
      have := h.perm.length_eq
      rw [List.flatten_cons, List.length_append] at this
      cases b with
      | nil => exact absurd rfl hn
      | cons x b => simp at this
  subst this
  simpa using e.symm.eq_nil
end K13

set_option linter.all false
/-! M2: the table of states over subsets as numbers. -/
namespace K13
def bit (m i : Nat) : Nat := m / 2 ^ i % 2
theorem bit_tb (m i : Nat) : m.testBit i = decide (bit m i = 1) := by
  unfold bit
  rw [Nat.testBit_eq_decide_div_mod_eq]
theorem bit01 (m i : Nat) : bit m i = 0 ∨ bit m i = 1 := by unfold bit; omega
theorem bit_zero_iff {m i : Nat} : bit m i = 0 ↔ m.testBit i = false := by
  rw [bit_tb]
  rcases bit01 m i with h | h <;> simp [h]
theorem bit_one_iff {m i : Nat} : bit m i = 1 ↔ m.testBit i = true := by
  rw [bit_tb]
  simp
theorem bit_add {m i : Nat} (h : bit m i = 0) : bit (m + 2 ^ i) i = 1 := by
  unfold bit at *
  rw [Nat.add_div_right _ (Nat.two_pow_pos i)]
  omega
theorem bit_ge {m i : Nat} (h : bit m i = 1) : 2 ^ i ≤ m := by
  unfold bit at h
  refine Nat.le_of_not_lt fun q => ?_
  rw [Nat.div_eq_of_lt q] at h
  omega
theorem bit_sub {m i : Nat} (h : bit m i = 1) : bit (m - 2 ^ i) i = 0 := by
  have h2 := bit_ge h
  unfold bit at *
  have e : m / 2 ^ i = (m - 2 ^ i) / 2 ^ i + 1 := by
    have := Nat.add_div_right (m - 2 ^ i) (Nat.two_pow_pos i)
    rw [Nat.sub_add_cancel h2] at this
    exact this
  omega
theorem div_hi {m i : Nat} (h : bit m i = 0) : (m + 2 ^ i) / 2 ^ (i + 1) = m / 2 ^ (i + 1) := by
  have e1 : m / 2 ^ (i + 1) = m / 2 ^ i / 2 := by rw [Nat.pow_succ, Nat.div_div_eq_div_mul]
  have e2 : (m + 2 ^ i) / 2 ^ (i + 1) = (m + 2 ^ i) / 2 ^ i / 2 := by rw [Nat.pow_succ, Nat.div_div_eq_div_mul]
  rw [e1, e2, Nat.add_div_right _ (Nat.two_pow_pos i)]
  unfold bit at h
  omega
theorem bit_add_ne {m i j : Nat} (h : bit m i = 0) (hj : j ≠ i) : bit (m + 2 ^ i) j = bit m j := by
  by_cases q : j < i
  · unfold bit
    obtain ⟨k, rfl⟩ := Nat.exists_eq_add_of_lt q
    rw [show 2 ^ (j + k + 1) = 2 ^ j * (2 * 2 ^ k) by rw [Nat.pow_add, Nat.pow_add, Nat.pow_one, Nat.mul_assoc, Nat.mul_comm 2], Nat.add_mul_div_left _ _ (Nat.two_pow_pos j)]
    omega
  · obtain ⟨k, rfl⟩ := Nat.exists_eq_add_of_lt (show i < j by omega)
    unfold bit
    rw [show 2 ^ (i + k + 1) = 2 ^ (i + 1) * 2 ^ k by rw [← Nat.pow_add]; congr 1; omega, ← Nat.div_div_eq_div_mul, ← Nat.div_div_eq_div_mul, div_hi h]
theorem bit_sub_ne {m i j : Nat} (h : bit m i = 1) (hj : j ≠ i) : bit (m - 2 ^ i) j = bit m j := by
  have := bit_add_ne (bit_sub h) hj
  rw [Nat.sub_add_cancel (bit_ge h)] at this
  exact this.symm
theorem bit_lt {n m i : Nat} (hm : m < 2 ^ n) (h : bit m i = 1) : i < n := by
  refine Nat.lt_of_not_le fun q => ?_
  have h2 := bit_ge h
  have := Nat.pow_le_pow_right (n := 2) (by decide) q
  omega
theorem bit_ex {n m : Nat} (hm : m < 2 ^ n) (h : m ≠ 0) : ∃ i, i < n ∧ bit m i = 1 := by
  obtain ⟨i, e⟩ := Nat.exists_testBit_of_ne_zero h
  have := bit_one_iff.mpr e
  exact ⟨i, bit_lt hm this, this⟩
theorem add_lt {n m i : Nat} (hm : m < 2 ^ n) (hi : i < n) (h : bit m i = 0) : m + 2 ^ i < 2 ^ n := by
  refine Nat.lt_pow_two_of_testBit _ fun j hj => ?_
  refine bit_zero_iff.mp ?_
  rw [bit_add_ne h (by omega)]
  refine bit_zero_iff.mpr (Nat.testBit_lt_two_pow (Nat.lt_of_lt_of_le hm (Nat.pow_le_pow_right (by decide) hj)))
theorem bit_zero (i : Nat) : bit 0 i = 0 := by unfold bit; simp
/-! ### masks of places -/
def mask (is : List Nat) : Nat := (is.map (2 ^ ·)).sum
theorem mask_bit : ∀ {is : List Nat}, is.Nodup → ∀ j, bit (mask is) j = if j ∈ is then 1 else 0
  | [], _, j => by simp [mask, bit_zero]
  | i :: is, h, j => by
    have hn := List.nodup_cons.mp h
    have ih := mask_bit hn.2
    have e : mask (i :: is) = mask is + 2 ^ i := by unfold mask; rw [List.map_cons, List.sum_cons, Nat.add_comm]
    have h0 : bit (mask is) i = 0 := by rw [ih, if_neg hn.1]
    rw [e]
    by_cases hj : j = i
    · subst hj; rw [bit_add h0]; simp
    · rw [bit_add_ne h0 hj, ih]; simp [hj]
theorem mask_cons (i : Nat) (is : List Nat) : mask (i :: is) = mask is + 2 ^ i := by unfold mask; rw [List.map_cons, List.sum_cons, Nat.add_comm]
theorem mask_lt {n : Nat} {is : List Nat} (h : is.Nodup) (hi : ∀ i ∈ is, i < n) : mask is < 2 ^ n := by
  refine Nat.lt_pow_two_of_testBit _ fun j hj => bit_zero_iff.mp ?_
  rw [mask_bit h, if_neg]
  exact fun q => by have := hi j q; omega
theorem mask_full {n : Nat} {is : List Nat} (h : is.Nodup) (hi : ∀ i ∈ is, i < n) (hm : mask is = 2 ^ n - 1) : is.Perm (List.range n) := by
  refine (List.perm_ext_iff_of_nodup h List.nodup_range).mpr fun j => ⟨fun q => List.mem_range.mpr (hi j q), fun q => ?_⟩
  have := mask_bit h j
  rw [hm] at this
  by_cases hj : j ∈ is
  · exact hj
  · rw [if_neg hj] at this
    have q2 := bit_zero_iff.mp this
    rw [Nat.testBit_two_pow_sub_one] at q2
    simp at q2
    have := List.mem_range.mp q
    omega
theorem mask_range (n : Nat) : mask (List.range n) = 2 ^ n - 1 := by
  induction n with
  | zero => rfl
  | succ n ih =>
    have := Nat.two_pow_pos n
    unfold mask at *
    rw [List.range_succ, List.map_append, List.sum_append, ih]
    simp only [List.map_cons, List.map_nil, List.sum_cons, List.sum_nil]
    rw [Nat.pow_succ]; omega
theorem mask_perm {a b : List Nat} (h : a.Perm b) : mask a = mask b := by
  unfold mask
  exact (h.map _).sum_nat
end K13

set_option linter.all false
/-! M3: the table's invariant and what it tells. -/
namespace K13
abbrev Tb := Nat → Option St
def done (c j m i : Nat) : Prop := m < c ∨ (m = c ∧ i < j)
structure Good (coil : Int) (ps : Nat → Int) (n : Nat) (G : Tb) (c j : Nat) : Prop where
  zero : G 0 = some (0, coil)
  lt : ∀ m t, G m = some t → m < 2 ^ n
  src : ∀ m t, G m = some t → m ≠ 0 → ∃ i s, i < n ∧ bit m i = 1 ∧ done c j (m - 2 ^ i) i ∧ G (m - 2 ^ i) = some s ∧ t = step coil s (ps i)
  rel : ∀ m i s, done c j m i → i < n → G m = some s → bit m i = 0 → ∃ t, G (m + 2 ^ i) = some t ∧ le2 t (step coil s (ps i))
variable {coil : Int} {ps : Nat → Int} {n : Nat} {G : Tb} {c j : Nat}
theorem Good.start : Good coil ps n (fun m => if m = 0 then some (0, coil) else none) 0 0 := by
  refine ⟨rfl, fun m t h => ?_, fun m t h q => ?_, fun m i s h => ?_⟩
  · split at h
    · rename_i e; rw [e]; exact Nat.two_pow_pos n
    · cases h
  · rw [if_neg q] at h; cases h
  · unfold done at h; omega
theorem Good.turn (h : Good coil ps n G c n) : Good coil ps n G (c + 1) 0 := by
  refine ⟨h.zero, h.lt, fun m t e q => ?_, fun m i s d hi => h.rel m i s ?_ hi⟩
  · obtain ⟨i, s, h1, h2, h3, h4⟩ := h.src m t e q
    exact ⟨i, s, h1, h2, by unfold done at *; omega, h4⟩
  · unfold done at *; omega
theorem Good.has (h : Good coil ps n G c j) : ∀ m, m ≤ c → m < 2 ^ n → ∃ t, G m = some t := by
  intro m
  induction m using Nat.strongRecOn with
  | _ m ih =>
    intro hc hn
    by_cases hm : m = 0
    · rw [hm]; exact ⟨_, h.zero⟩
    · obtain ⟨i, hi, hb⟩ := bit_ex hn hm
      have hp := Nat.two_pow_pos i
      have hg := bit_ge hb
      obtain ⟨s, e⟩ := ih (m - 2 ^ i) (by omega) (by omega) (by omega)
      obtain ⟨t, e2, _⟩ := h.rel (m - 2 ^ i) i s (by unfold done; omega) hi e (bit_sub hb)
      rw [Nat.sub_add_cancel hg] at e2
      exact ⟨t, e2⟩
/-- a place that is taken already -/
theorem Good.skip (h : Good coil ps n G c j) (hb : bit c j = 1) : Good coil ps n G c (j + 1) := by
  refine ⟨h.zero, h.lt, fun m t e q => ?_, fun m i s d hi e hm => ?_⟩
  · obtain ⟨i, s, h1, h2, h3, h4⟩ := h.src m t e q
    exact ⟨i, s, h1, h2, by unfold done at *; omega, h4⟩
  · refine h.rel m i s ?_ hi e hm
    unfold done at *
    by_cases hj : m = c ∧ i = j
    · rw [hj.1, hj.2, hb] at hm; cases hm
    · omega
/-- what stands is as good -/
theorem Good.keep (h : Good coil ps n G c j) {s t : St} (hs : G c = some s) (ht : G (c + 2 ^ j) = some t) (hl : le2 t (step coil s (ps j))) : Good coil ps n G c (j + 1) := by
  refine ⟨h.zero, h.lt, fun m t e q => ?_, fun m i s' d hi e hm => ?_⟩
  · obtain ⟨i, s, h1, h2, h3, h4⟩ := h.src m t e q
    exact ⟨i, s, h1, h2, by unfold done at *; omega, h4⟩
  · by_cases hj : m = c ∧ i = j
    · obtain ⟨rfl, rfl⟩ := hj
      rw [hs] at e; cases e
      exact ⟨t, ht, hl⟩
    · exact h.rel m i s' (by unfold done at *; omega) hi e hm
/-- a better one is written -/
theorem Good.put (h : Good coil ps n G c j) {s : St} (hc : c < 2 ^ n) (hj : j < n) (hb : bit c j = 0) (hs : G c = some s) (hl : ∀ t, G (c + 2 ^ j) = some t → le2 (step coil s (ps j)) t) :
    Good coil ps n (fun m => if m = c + 2 ^ j then some (step coil s (ps j)) else G m) c (j + 1) := by
  have hp := Nat.two_pow_pos j
  have low : ∀ m, m ≤ c → (if m = c + 2 ^ j then some (step coil s (ps j)) else G m) = G m := fun m hm => if_neg (by omega)
  refine ⟨by rw [low 0 (Nat.zero_le _)]; exact h.zero, fun m t e => ?_, fun m t e q => ?_, fun m i s' d hi e hm => ?_⟩
  · by_cases hx : m = c + 2 ^ j
    · rw [hx]; exact add_lt hc hj hb
    · rw [if_neg hx] at e; exact h.lt m t e
  · by_cases hx : m = c + 2 ^ j
    · rw [if_pos hx] at e; cases e
      subst hx
      refine ⟨j, s, hj, bit_add hb, by unfold done; omega, ?_, rfl⟩
      rw [Nat.add_sub_cancel, low c (Nat.le_refl _)]; exact hs
    · rw [if_neg hx] at e
      obtain ⟨i, s', h1, h2, h3, h4, h5⟩ := h.src m t e q
      refine ⟨i, s', h1, h2, by unfold done at *; omega, ?_, h5⟩
      rw [low _ (by unfold done at h3; omega)]; exact h4
  · have hmc : m ≤ c := by unfold done at d; omega
    rw [low m hmc] at e
    by_cases hjj : m = c ∧ i = j
    · obtain ⟨rfl, rfl⟩ := hjj
      rw [hs] at e; cases e
      exact ⟨_, if_pos rfl, le2.refl _⟩
    · obtain ⟨t, e1, e2⟩ := h.rel m i s' (by unfold done at *; omega) hi e hm
      by_cases hx : m + 2 ^ i = c + 2 ^ j
      · refine ⟨step coil s (ps j), if_pos hx, (hl t (by rw [← hx]; exact e1)).trans e2⟩
      · exact ⟨t, by rw [if_neg hx]; exact e1, e2⟩
/-! ### the whole table -/
def runR (coil : Int) (ps : Nat → Int) (is : List Nat) : St := is.foldr (fun i s => step coil s (ps i)) (0, coil)
theorem runR_eq (is : List Nat) : runR coil ps is = run coil (is.reverse.map ps) (0, coil) := by
  unfold runR run
  rw [List.foldl_map, List.foldl_reverse]
theorem run_nn : ∀ {l : List Int} {s : St}, (∀ p ∈ l, 1 ≤ p) → 0 ≤ s.2 → 0 ≤ (run coil l s).2
  | [], s, _, h => h
  | p :: l, s, hl, h => run_nn (l := l) (fun q hq => hl q (List.mem_cons_of_mem _ hq)) (step_nn (hl p List.mem_cons_self) h)
theorem runR_nn (hc : 0 ≤ coil) : ∀ {is : List Nat}, (∀ i ∈ is, 1 ≤ ps i) → 0 ≤ (runR coil ps is).2
  | [], _ => hc
  | i :: is, h => step_nn (h i List.mem_cons_self) (runR_nn hc (is := is) fun j hj => h j (List.mem_cons_of_mem _ hj))
/-- any order is no better than the table -/
theorem Good.low (h : Good coil ps n G (2 ^ n) 0) (hc : 0 ≤ coil) (hp : ∀ i, i < n → 1 ≤ ps i) : ∀ {is : List Nat}, is.Nodup → (∀ i ∈ is, i < n) → ∃ t, G (mask is) = some t ∧ le2 t (runR coil ps is)
  | [], _, _ => ⟨_, h.zero, le2.refl _⟩
  | i :: is, hn, hi => by
    have hn' := List.nodup_cons.mp hn
    have hi' : ∀ j ∈ is, j < n := fun j hj => hi j (List.mem_cons_of_mem _ hj)
    obtain ⟨s, e, l⟩ := h.low hc hp hn'.2 hi'
    have hin := hi i List.mem_cons_self
    have hb : bit (mask is) i = 0 := by rw [mask_bit hn'.2, if_neg hn'.1]
    obtain ⟨t, e2, l2⟩ := h.rel (mask is) i s (.inl (mask_lt hn'.2 hi')) hin e hb
    refine ⟨t, by rw [mask_cons]; exact e2, l2.trans ?_⟩
    exact step_mono (hp i hin) (runR_nn hc fun j hj => hp j (hi' j hj)) l
/-- what stands in the table is some order's -/
theorem Good.ord (h : Good coil ps n G c j) : ∀ m t, G m = some t → ∃ is : List Nat, is.Nodup ∧ (∀ i ∈ is, i < n) ∧ mask is = m ∧ runR coil ps is = t := by
  intro m
  induction m using Nat.strongRecOn with
  | _ m ih =>
    intro t e
    by_cases hm : m = 0
    · subst hm
      rw [h.zero] at e; cases e
      exact ⟨[], List.nodup_nil, fun i hi => (by cases hi), rfl, rfl⟩
    · obtain ⟨i, s, h1, h2, h3, h4, rfl⟩ := h.src m t e hm
      have hp := Nat.two_pow_pos i
      have hg := bit_ge h2
      obtain ⟨is, q1, q2, q3, q4⟩ := ih (m - 2 ^ i) (by omega) s h4
      have hni : i ∉ is := fun q => by
        have := mask_bit q1 i
        rw [if_pos q, q3, bit_sub h2] at this
        cases this
      refine ⟨i :: is, List.nodup_cons.mpr ⟨hni, q1⟩, fun k hk => ?_, by rw [mask_cons, q3]; omega, by rw [← q4]; rfl⟩
      rcases List.mem_cons.mp hk with rfl | hk
      · exact h1
      · exact q2 k hk
/-- the least number of coils -/
structure Least (coil : Int) (l : List Int) (k : Int) : Prop where
  ex : ∃ bins, Pack coil l bins ∧ (bins.length : Int) = k
  le : ∀ bins, Pack coil l bins → k ≤ bins.length
theorem Least.eq {l : List Int} {k k' : Int} (h : Least coil l k) (h' : Least coil l k') : k = k' := by
  obtain ⟨b, p, e⟩ := h.ex
  obtain ⟨b', p', e'⟩ := h'.ex
  have := h.le b' p'
  have := h'.le b p
  omega
theorem Good.least (h : Good coil ps n G (2 ^ n) 0) (hc : 0 ≤ coil) (hp : ∀ i, i < n → 1 ≤ ps i ∧ ps i ≤ coil) {t : St} (e : G (2 ^ n - 1) = some t) : Least coil ((List.range n).map ps) t.1 := by
  have hl : ∀ p ∈ (List.range n).map ps, 1 ≤ p ∧ p ≤ coil := fun p hq => by
    obtain ⟨i, hi, rfl⟩ := List.mem_map.mp hq
    exact hp i (List.mem_range.mp hi)
  constructor
  · obtain ⟨is, q1, q2, q3, q4⟩ := h.ord _ t e
    have pe := mask_full q1 q2 q3
    have pl : (is.reverse.map ps).Perm ((List.range n).map ps) := ((List.reverse_perm is).trans pe).map ps
    obtain ⟨bins, hb, e2⟩ := run_pack0 (coil := coil) (l := is.reverse.map ps) fun p hq => hl p (pl.subset hq)
    refine ⟨bins, ⟨hb.perm.trans pl, hb.ne, hb.le⟩, ?_⟩
    rw [← e2, ← runR_eq, q4]
  · intro bins hb
    obtain ⟨l', pl, hr⟩ := pack_run (fun p hq => (hl p hq).1) hb
    obtain ⟨is, pi, rfl⟩ := map_perm_inv pl.symm (l := List.range n) rfl
    have nd : is.reverse.Nodup := (pi.symm.nodup List.nodup_range).perm (List.reverse_perm is).symm
    have lt : ∀ i ∈ is.reverse, i < n := fun i hi => List.mem_range.mp (pi.subset ((List.reverse_perm is).subset hi))
    obtain ⟨t', e', l2⟩ := h.low hc (fun i hi => (hp i hi).1) nd lt
    have em : mask is.reverse = 2 ^ n - 1 := by rw [← mask_range n]; exact mask_perm ((List.reverse_perm is).trans pi)
    rw [em, e] at e'
    cases e'
    rw [runR_eq, List.reverse_reverse] at l2
    unfold le2 at l2
    omega
end K13

set_option linter.all false
set_option maxRecDepth 100000
set_option maxHeartbeats 1000000
namespace PD
open PySem PySem.Spec PyProof.Rows L2 K13

theorem isOwnL_of {s : S} {i : Nat} {ds : List D} (h : s[i]? = some (.ow (.lst ds))) : isOwnL s i = true := by simp [isOwnL, h]
theorem isi_int (T : String) (b : Bool) (i : Int) (h : kitB "int" T = some b) : gIsi T [.int i] = some (.bl b) := by simp [gIsi, tyD, h]
theorem isi_tup (T : String) (b : Bool) (ds : List D) (h : kitB "tuple" T = some b) : gIsi T [.tup ds] = some (.bl b) := by simp [gIsi, tyD, h]
theorem ii (i : Int) : gIsi "int" [.int i] = some (.bl true) := isi_int _ _ _ (by decide +kernel)
theorem ib (i : Int) : gIsi "bool" [.int i] = some (.bl false) := isi_int _ _ _ (by decide +kernel)
theorem istr (i : Int) : gIsi "str" [.int i] = some (.bl false) := isi_int _ _ _ (by decide +kernel)
theorem itt (ds : List D) : gIsi "tuple" [.tup ds] = some (.bl true) := isi_tup _ _ _ (by decide +kernel)
theorem p_whole (i : Int) : m_is_whole [.int i] = .ok (.d (.bl true)) := by
  simp [m_is_whole, runP, b_is_whole, ii, ib]
theorem p_within (i a b : Int) : m_is_within [.int i, .int a, .int b] = .ok (.d (.bl (decide (a ≤ i) && decide (i ≤ b)))) := by
  simp [m_is_within, runP, b_is_within, p_whole]
  by_cases h : a ≤ i
  · simp [h]
  · simp [h]
def wts (n : Nat) : List Int := (List.range (n + 1)).map fun i => (2 : Int) ^ i
theorem wts_succ (n : Nat) : wts (n + 1) = wts n ++ [(2 : Int) ^ (n + 1)] := by unfold wts; rw [List.range_succ]; simp
theorem wts_len (n : Nat) : (wts n).length = n + 1 := by simp [wts]
theorem pow_big {i : Nat} (h : i ≤ 100) : (2 : Int) ^ i < 2 ^ 4000 := Int.pow_lt_pow_of_lt (by decide) (by omega)
theorem wts_last (n : Nat) : atI (iD (wts n)) (-1) = some (.int (2 ^ n)) := by
  cases n with
  | zero => rfl
  | succ n => rw [wts_succ, iD, List.map_append]; exact atI_last
theorem wts_at {n i : Nat} (h : i < n + 1) : atI (iD (wts n)) (i : Int) = some (.int (2 ^ i)) := by
  rw [atI_nat (by simp [wts_len]; exact h)]
  simp [wts]
theorem p_weights {ds : List D} (h : ds.length ≤ 99) : m_weights_of [.tup ds] = .ok (.d (.lst (iD (wts ds.length)))) := by
  unfold m_weights_of runP b_weights_of
  obtain ⟨s', e, h'⟩ := forD_inv (t := gN 2) (f := sApp 1 (eBin gMul (eBin gIx2 (eV 1) (eUn gNeg (eC (.int 1)))) (eC (.int 2)))) (ds := ds) (k := 0) (s := [.fz (.tup ds), .ow (.lst [.int 1]), .no])
    (fun k s => ∃ x, s = [.fz (.tup ds), .ow (.lst (iD (wts k))), x]) ⟨.no, rfl⟩ fun i d s hd ⟨x, e⟩ => by
      have hi := (List.getElem?_eq_some_iff.mp hd).1
      subst e
      have hm : gMul [.int (2 ^ i), .int 2] = some (.int (2 ^ i * 2)) := g_mul (by exact Int.le_of_lt (Int.pow_pos (by decide))) (pow_big (by omega)) (by decide) (by exact pow_big (i := 1) (by decide))
      have hl := wts_last i
      have hlen : (iD (wts i)).length < lim := by simp [wts_len, lim]; omega
      refine ⟨_, by simp; rfl, [.fz (.tup ds), .ow (.lst (iD (wts (i + 1)))), .fz d], ?_, _, by rw [Nat.zero_add]⟩
      simp [isOwnL, hl, hm, hlen, wts_succ, lim, wts_len]
      rw [if_pos (by omega), Int.pow_succ]
  obtain ⟨x, rfl⟩ := h'
  simp [e]

/-! ### enumerate -/
theorem enumD_get (xs : List D) (i : Nat) : (enumD xs)[i]? = (xs[i]?).map fun x => D.tup [.int i, x] := by
  unfold enumD pairsD
  rw [List.getElem?_map, List.zip, List.getElem?_zipWith, List.getElem?_map]
  by_cases h : i < xs.length
  · simp [h]
  · simp [h]
theorem enumD_len (xs : List D) : (enumD xs).length = xs.length := by simp [enumD, pairsD]
@[simp] theorem g_enumT {xs : List D} : gEnum [.d (.tup xs)] = some (enumD xs) := rfl
@[simp] theorem g_enumL {xs : List D} : gEnum [.d (.lst xs)] = some (enumD xs) := rfl
@[simp] theorem x_eSl {fe : S → R W} {lo hi : Option (S → R W)} {s : S} : eSl fe lo hi s = (fe s).bind fun w s1 => (oPart lo s1).bind fun l s2 => (oPart hi s2).bind fun h s3 => ofO s3 ((rdW s3 w).bind fun d => (gSl l h d).map W.d) := rfl
@[simp] theorem x_oP0 {s : S} : oPart none s = .ok none s := rfl
@[simp] theorem x_oP {f : S → R W} {s : S} : oPart (some f) s = (f s).bind fun w s1 => match w with
    | .d (.int i) => .ok (some i) s1
    | _ => .st := rfl
@[simp] theorem g_slT {lo hi : Option Int} {xs : List D} : gSl lo hi (.tup xs) = some (.tup (cutD xs lo hi)) := rfl
theorem p_first {ps : List Int} {jm : List D → FR} (hl : ps.length ≤ 10) (hj : ∀ i ∈ ps, ∀ d, jm [.int i, d] = .ok (.d (.bl true))) : runP 6 (b_first_wrong jm) [.tup (iD ps), .int 0, .int 10] = .ok (.d .non) := by
  unfold runP b_first_wrong
  have hi := itt (iD ps)
  obtain ⟨s', e, h'⟩ := forD_inv (t := gT 2 (gsCons (gN 4) (gsCons (gN 5) gsNil))) (f := sIf (cNot (cVal (eFz (rCall 2 jm (aCons (eV 5) (aCons (eSl (eV 0) none (some (eV 4))) aNil)))))) (sRet (eV 4)) sNil) (ds := enumD (iD ps)) (k := 0)
    (s := [.fz (.tup (iD ps)), .fz (.int 0), .fz (.int 10), .no, .no, .no])
    (fun k s => ∃ x y, s = [.fz (.tup (iD ps)), .fz (.int 0), .fz (.int 10), .no, x, y]) ⟨.no, .no, rfl⟩ fun i d s hd ⟨x, y, e⟩ => by
      subst e
      rw [enumD_get] at hd
      cases hp : (iD ps)[i]? with
      | none => rw [hp] at hd; cases hd
      | some q =>
        rw [hp] at hd
        cases hd
        rw [List.getElem?_map] at hp
        cases hq : ps[i]? with
        | none => rw [hq] at hp; cases hp
        | some p =>
          rw [hq] at hp
          cases hp
          refine ⟨_, by simp; rfl, [.fz (.tup (iD ps)), .fz (.int 0), .fz (.int 10), .no, .fz (.int i), .fz (.int p)], ?_, _, _, rfl⟩
          have := hj p (List.mem_of_getElem? hq)
          simp [this]
  obtain ⟨x, y, rfl⟩ := h'
  have hl' : ¬ (10 : Int) < ps.length := by omega
  simp [hi, hl', e]
theorem p_require {coil : Int} {ps : List Int} (hc : 1 ≤ coil ∧ coil ≤ 99) (hl : ps.length ≤ 10) (hp : ∀ p ∈ ps, 1 ≤ p ∧ p ≤ coil) : m_require_pieces [.int coil, .tup (iD ps)] = .ok (.d .non) := by
  unfold m_require_pieces runP b_require_pieces
  have h1 := p_within coil 1 99
  have h2 := p_first (ps := ps) (jm := fun xs => runE 3 (eFz (rCall 3 m_is_within (aCons (eV 0) (aCons (eC (.int 1)) (aCons (eV 2) aNil))))) (xs ++ [.int coil])) hl fun i hi d => by
    have := p_within i 1 coil
    simp [runE, this, hp i hi]
  simp [h1, hc, sUn, isOwn, rCallJ, eVJ, capL, isP, h2, gNotN, D.isNon]
end PD

set_option linter.all false
set_option maxRecDepth 100000
set_option maxHeartbeats 1000000
namespace PD
open PySem PySem.Spec PyProof.Rows L2 K13
/-! ### dicts -/
section
variable {κ α : Type} [DecidableEq κ]
theorem dget_repl {k k' : κ} {d : α} : ∀ {ks : List κ} {vs : List α}, ks.length = vs.length → dgetK ks (replK ks vs k d) k' = if k = k' then (if hasK ks k = true then some d else none) else dgetK ks vs k'
  | [], [], _ => by simp [dgetK, hasK]
  | [], v :: vs, h => by simp at h
  | x :: ks, [], h => by simp at h
  | x :: ks, v :: vs, h => by
    have ih := dget_repl (k := k) (k' := k') (d := d) (ks := ks) (vs := vs) (by simpa using h)
    simp only [replK, dgetK, ih, hasK, List.any_cons, Bool.or_eq_true, decide_eq_true_eq]
    by_cases h1 : x = k'
    · subst h1
      by_cases h2 : x = k
      · subst h2; simp
      · simp [h2, Ne.symm h2]
    · by_cases h2 : x = k
      · subst h2; simp [h1]
      · simp [h1, h2]
theorem dget_app {k k' : κ} {d : α} : ∀ {ks : List κ} {vs : List α}, ks.length = vs.length → hasK ks k = false → dgetK (ks ++ [k]) (vs ++ [d]) k' = if k = k' then some d else dgetK ks vs k'
  | [], [], _, _ => by simp [dgetK]
  | [], v :: vs, h, _ => by simp at h
  | x :: ks, [], h, _ => by simp at h
  | x :: ks, v :: vs, h, hk => by
    simp only [hasK, List.any_cons, Bool.or_eq_false_iff, decide_eq_false_iff_not] at hk
    have ih := dget_app (k := k) (k' := k') (d := d) (ks := ks) (vs := vs) (by simpa using h) hk.2
    simp only [List.cons_append, dgetK, ih]
    by_cases h1 : x = k'
    · subst h1; simp [Ne.symm hk.1]
    · simp [h1]
theorem dget_put {k k' : κ} {d : α} {ks : List κ} {vs : List α} (h : ks.length = vs.length) : dgetK (putKs ks k) (putVs ks vs k d) k' = if k = k' then some d else dgetK ks vs k' := by
  unfold putKs putVs
  cases e : hasK ks k with
  | true => rw [if_pos rfl, if_pos rfl, dget_repl h, e]; simp
  | false => rw [if_neg Bool.false_ne_true, if_neg Bool.false_ne_true, dget_app h e]
theorem has_get {k : κ} : ∀ {ks : List κ} {vs : List α}, ks.length = vs.length → hasK ks k = (dgetK ks vs k).isSome
  | [], [], _ => rfl
  | [], v :: vs, h => by simp at h
  | x :: ks, [], h => by simp at h
  | x :: ks, v :: vs, h => by
    have ih := has_get (k := k) (ks := ks) (vs := vs) (by simpa using h)
    simp only [hasK, List.any_cons] at ih ⊢
    rw [ih, dgetK]
    by_cases e : x = k <;> simp [e]
theorem put_len_le {k : κ} {d : α} {ks : List κ} {vs : List α} (h : ks.length = vs.length) : (putVs ks vs k d).length ≤ vs.length + 1 := by
  unfold putVs
  split
  · rw [replK_length h]; omega
  · simp
end
/-! ### the table -/
def pD (s : K13.St) : D := .tup [.int s.1, .int s.2]
structure Tab (ks : List Key) (vs : List D) (G : Tb) : Prop where
  len : ks.length = vs.length
  get : ∀ m : Nat, dgetK ks vs (.inl (m : Int)) = (G m).map pD
theorem Tab.has {ks : List Key} {vs : List D} {G : Tb} (h : Tab ks vs G) (m : Nat) : hasK ks (.inl (m : Int)) = (G m).isSome := by
  rw [has_get h.len, h.get]; simp
theorem Tab.put {ks : List Key} {vs : List D} {G : Tb} (h : Tab ks vs G) (m : Nat) (t : K13.St) : Tab (putKs ks (.inl (m : Int))) (putVs ks vs (.inl (m : Int)) (pD t)) (fun k => if k = m then some t else G k) := by
  refine ⟨put_length h.len, fun k => ?_⟩
  rw [dget_put h.len]
  by_cases e : m = k
  · subst e; simp
  · have e2 : ¬ (m : Int) = k := by omega
    have e3 : ¬ (Sum.inl (m : Int) : Key) = .inl (k : Int) := fun q => e2 (Sum.inl.inj q)
    rw [if_neg e3, if_neg (Ne.symm e), h.get]
theorem enc_pD (s : K13.St) : encD (pD s) = .tuple [.int s.1, .int s.2] := by simp [pD, encD, D.toP, toPL]
theorem dok_pD (s : K13.St) : dok (pD s) = some (.tuple [.int s.1, .int s.2]) := dok_tI [s.1, s.2]
theorem lt_pD (s t : K13.St) : gLt [pD s, pD t] = some (.bl (!decide (t.1 < s.1 ∨ (t.1 = s.1 ∧ t.2 ≤ s.2)))) := by
  have h := congrFun (congrFun (PySem.W.dataLe_ii (fun s : K13.St => s.1) (fun s : K13.St => s.2)) t) s
  have h2 : PySem.W.dataLe false (fun b : K13.St => PyData.tuple [.int b.1, .int b.2]) t s = !PySem.W.dataLt (.tuple [.int s.1, .int s.2]) (.tuple [.int t.1, .int t.2]) := rfl
  rw [h2] at h
  have h3 : PySem.W.alike (.tuple [.int s.1, .int s.2]) (.tuple [.int t.1, .int t.2]) = true := by rw [PySem.W.alike]; exact alike_int [s.1, s.2] [t.1, t.2]
  simp only [gLt, ord2, dok_pD, Option.bind_some, h3, isNonP, Bool.not_false, Bool.and_self, if_true, Option.map_some, ← h, Bool.not_not]
theorem eq_pD (s t : K13.St) : gEq [pD s, pD t] = some (.bl (decide (s = t))) := by
  have := gEq_tI [s.1, s.2] [t.1, t.2]
  have e : (decide ([s.1, s.2] = [t.1, t.2])) = decide (s = t) := by
    obtain ⟨a, b⟩ := s
    obtain ⟨c, d⟩ := t
    simp
  rw [← e]
  exact this
theorem bitI (c j : Nat) : (c : Int) / 2 ^ j % 2 = ((bit c j : Nat) : Int) := by
  unfold bit
  push_cast
  rfl
@[simp] theorem g_ixD {ks : List Key} {vs : List D} {a : Int} : gIx2 [.dic ks vs, .int a] = dgetK ks vs (.inl a) := rfl
@[simp] theorem g_notD {ks : List Key} {vs : List D} {a : Int} : gNotIn2 [.int a, .dic ks vs] = some (.bl (!hasK ks (.inl a))) := rfl
@[simp] theorem x_odic {ks : List Key} {vs : List D} : (O.dic ks vs).toD = .dic ks vs := rfl
def psf (ps : List Int) (i : Nat) : Int := ps.getD i 0
theorem psf_at {ps : List Int} {i : Nat} (h : i < ps.length) : ps[i]? = some (psf ps i) := by unfold psf; simp [List.getD, h]
def inBody : S → SR := sIf (cVal (eBin gEq (eBin gMod (eBin gDiv (eV 4) (eBin gIx2 (eV 3) (eV 7))) (eC (.int 2))) (eC (.int 0)))) (sSeq (sAsg (gN 9) (eIf (cVal (eBin gLe (eBin gAdd (eV 6) (eV 8)) (eV 0))) (eTup (aCons (eV 5) (aCons (eBin gAdd (eV 6) (eV 8)) aNil))) (eTup (aCons (eBin gAdd (eV 5) (eC (.int 1))) (aCons (eV 8) aNil))))) (sSeq (sAsg (gN 10) (eBin gAdd (eV 4) (eBin gIx2 (eV 3) (eV 7)))) (sIf (cOr (cVal (eBin gNotIn2 (eV 10) (eV 2))) (cVal (eBin gLt (eV 9) (eBin gIx2 (eV 2) (eV 10))))) (sAsg (gSet 2 (eV 10)) (eV 9)) sNil))) sNil
def stS (coil : Int) (ps : List Int) (ks : List Key) (vs : List D) (r : List Sl) : S := .fz (.int coil) :: .fz (.tup (iD ps)) :: .ow (.dic ks vs) :: .fz (.lst (iD (wts ps.length))) :: r
theorem div_w {n c j : Nat} (hn : n ≤ 10) (hj : j < n + 1) : gDiv [.int c, .int (2 ^ j)] = some (.int ((c : Int) / 2 ^ j)) :=
  g_div (Int.pow_pos (by decide)) (pow_big (by omega))
theorem step_told (coil many cut p : Int) : (if cut + p ≤ coil then D.tup [.int many, .int (cut + p)] else D.tup [.int (many + 1), .int p]) = pD (K13.step coil (many, cut) p) := by
  unfold K13.step pD
  split <;> rfl
theorem in_step {coil : Int} {ps : List Int} {ks : List Key} {vs : List D} {G : Tb} {c j : Nat} {many cut : Int} {x9 x10 : Sl} (hn : ps.length ≤ 10) (hj : j < ps.length) (hc : c < 2 ^ ps.length) (T : Tab ks vs G) (hG : Good coil (psf ps) ps.length G c j) (hs : G c = some (many, cut)) (hv : vs.length < 100000) :
    ∃ ks' vs' G' y9 y10, inBody (stS coil ps ks vs [.fz (.int c), .fz (.int many), .fz (.int cut), .fz (.int j), .fz (.int (psf ps j)), x9, x10]) = .nx (stS coil ps ks' vs' [.fz (.int c), .fz (.int many), .fz (.int cut), .fz (.int j), .fz (.int (psf ps j)), y9, y10]) ∧
      Tab ks' vs' G' ∧ Good coil (psf ps) ps.length G' c (j + 1) ∧ G' c = some (many, cut) ∧ vs'.length ≤ vs.length + 1 := by
  have hw := wts_at (n := ps.length) (i := j) (by omega)
  have hd := div_w (n := ps.length) (c := c) (j := j) hn (by omega)
  have hm : gMod [.int ((c : Int) / 2 ^ j), .int 2] = some (.int ((bit c j : Nat) : Int)) := by rw [g_mod (by decide), bitI]
  rcases bit01 c j with hb | hb
  · rw [hb] at hm
    have hk : ((c + 2 ^ j : Nat) : Int) = (c : Int) + 2 ^ j := by push_cast; rfl
    have hset : ∀ t : K13.St, vs.length < lim → ∀ x9, gSet 2 (eV 10) (pD t) (stS coil ps ks vs [.fz (.int c), .fz (.int many), .fz (.int cut), .fz (.int j), .fz (.int (psf ps j)), x9, .fz (.int ((c : Int) + 2 ^ j))]) =
        .ok () (stS coil ps (putKs ks (.inl ((c : Int) + 2 ^ j))) (putVs ks vs (.inl ((c : Int) + 2 ^ j)) (pD t)) [.fz (.int c), .fz (.int many), .fz (.int cut), .fz (.int j), .fz (.int (psf ps j)), x9, .fz (.int ((c : Int) + 2 ^ j))]) := by
      intro t hl x9
      simp [gSet, stS, isOwn, O.put, keyD, hl]
    have hlim : vs.length < lim := Nat.lt_trans hv (by decide)
    have hmin : c + 2 ^ j ≠ c := by have := Nat.two_pow_pos j; omega
    have hmc : ¬ (c = c + 2 ^ j) := Ne.symm hmin
    -- the body up to the store
    have run : ∀ (b : Bool), ((cOr (cVal (eBin gNotIn2 (eV 10) (eV 2))) (cVal (eBin gLt (eV 9) (eBin gIx2 (eV 2) (eV 10))))) (stS coil ps ks vs [.fz (.int c), .fz (.int many), .fz (.int cut), .fz (.int j), .fz (.int (psf ps j)), .fz (pD (K13.step coil (many, cut) (psf ps j))), .fz (.int ((c : Int) + 2 ^ j))]) =
          .ok b (stS coil ps ks vs [.fz (.int c), .fz (.int many), .fz (.int cut), .fz (.int j), .fz (.int (psf ps j)), .fz (pD (K13.step coil (many, cut) (psf ps j))), .fz (.int ((c : Int) + 2 ^ j))])) →
        inBody (stS coil ps ks vs [.fz (.int c), .fz (.int many), .fz (.int cut), .fz (.int j), .fz (.int (psf ps j)), x9, x10]) =
          if b = true then .nx (stS coil ps (putKs ks (.inl ((c : Int) + 2 ^ j))) (putVs ks vs (.inl ((c : Int) + 2 ^ j)) (pD (K13.step coil (many, cut) (psf ps j)))) [.fz (.int c), .fz (.int many), .fz (.int cut), .fz (.int j), .fz (.int (psf ps j)), .fz (pD (K13.step coil (many, cut) (psf ps j))), .fz (.int ((c : Int) + 2 ^ j))])
          else .nx (stS coil ps ks vs [.fz (.int c), .fz (.int many), .fz (.int cut), .fz (.int j), .fz (.int (psf ps j)), .fz (pD (K13.step coil (many, cut) (psf ps j))), .fz (.int ((c : Int) + 2 ^ j))]) := by
      intro b hcond
      have hset := hset (K13.step coil (many, cut) (psf ps j)) hlim (.fz (pD (K13.step coil (many, cut) (psf ps j))))
      generalize hcc : (cOr (cVal (eBin gNotIn2 (eV 10) (eV 2))) (cVal (eBin gLt (eV 9) (eBin gIx2 (eV 2) (eV 10))))) = cc at hcond
      generalize hgg : gSet 2 (eV 10) = gg at hset
      have told := step_told coil many cut (psf ps j)
      unfold inBody
      rw [hcc, hgg]
      generalize pD (K13.step coil (many, cut) (psf ps j)) = tv at *
      simp only [stS] at hcond hset ⊢
      by_cases hf : cut + psf ps j ≤ coil
      · rw [if_pos hf] at told
        subst told
        simp [hw, hd, hm, gEq_int, hf, hcond]
        cases b <;> simp [hset]
      · rw [if_neg hf] at told
        subst told
        simp [hw, hd, hm, gEq_int, hf, hcond]
        cases b <;> simp [hset]
    have TP := T.put (c + 2 ^ j) (K13.step coil (many, cut) (psf ps j))
    rw [hk] at TP
    cases hx : G (c + 2 ^ j) with
    | none =>
      have hh := T.has (c + 2 ^ j)
      rw [hx, hk] at hh
      refine ⟨_, _, _, _, _, (run true ?_).trans (if_pos rfl), TP, hG.put hc hj hb hs (fun t e => by rw [hx] at e; cases e), by rw [if_neg hmc]; exact hs, put_len_le T.len⟩
      simp [stS, hh]
    | some t =>
      have hh := T.has (c + 2 ^ j)
      have hg := T.get (c + 2 ^ j)
      rw [hk] at hh hg
      rw [hx] at hh hg
      have hlt := lt_pD (K13.step coil (many, cut) (psf ps j)) t
      by_cases hb2 : t.1 < (K13.step coil (many, cut) (psf ps j)).1 ∨ (t.1 = (K13.step coil (many, cut) (psf ps j)).1 ∧ t.2 ≤ (K13.step coil (many, cut) (psf ps j)).2)
      · refine ⟨_, _, _, _, _, (run false ?_).trans (if_neg (by decide)), T, hG.keep hs hx hb2, hs, Nat.le_succ _⟩
        rw [decide_eq_true hb2] at hlt
        simp only [Option.map_some, Option.isSome_some] at hh hg
        simp [stS, hh, hg, hlt]
      · refine ⟨_, _, _, _, _, (run true ?_).trans (if_pos rfl), TP, hG.put hc hj hb hs (fun t' e => by rw [hx] at e; cases e; unfold le2; omega), by rw [if_neg hmc]; exact hs, put_len_le T.len⟩
        rw [decide_eq_false hb2] at hlt
        simp only [Option.map_some, Option.isSome_some] at hh hg
        simp [stS, hh, hg, hlt]
  · rw [hb] at hm
    refine ⟨ks, vs, G, x9, x10, ?_, T, hG.skip hb, hs, Nat.le_succ _⟩
    simp [inBody, stS, hw, hd, hm, gEq_int]
end PD

set_option linter.all false
set_option maxRecDepth 100000
set_option maxHeartbeats 1000000
namespace PD
open PySem PySem.Spec PyProof.Rows L2 K13
theorem rng_get (lo hi : Int) (i : Nat) : (rngD lo hi)[i]? = if i < (hi - lo).toNat then some (.int (lo + i)) else none := by
  unfold rngD
  rw [List.getElem?_map]
  by_cases h : i < (hi - lo).toNat
  · simp [h]
  · simp [h]
theorem rng_len (lo hi : Int) : (rngD lo hi).length = (hi - lo).toNat := by unfold rngD; simp
theorem g_rng1 {j : Int} (h0 : 0 ≤ j) (h : j < 2 ^ 62) : gRng1 [.d (.int j)] = some (rngD 0 j) := by simp only [gRng1]; rw [if_pos ⟨by omega, h⟩]
theorem g_rng2 {i j : Int} (h0 : 0 ≤ i) (h1 : i < 2 ^ 62) (h2 : 0 ≤ j) (h : j < 2 ^ 62) : gRng2 [.d (.int i), .d (.int j)] = some (rngD i j) := by simp only [gRng2]; rw [if_pos ⟨⟨by omega, h1⟩, by omega, h⟩]
theorem enum_i {ps : List Int} {i : Nat} {d : D} (h : (enumD (iD ps))[i]? = some d) : i < ps.length ∧ d = .tup [.int i, .int (psf ps i)] := by
  rw [enumD_get, List.getElem?_map] at h
  by_cases hi : i < ps.length
  · rw [psf_at hi] at h
    cases h
    exact ⟨hi, rfl⟩
  · rw [List.getElem?_eq_none (by omega)] at h; cases h
def outBody : S → SR := sSeq (sAsg (gT 2 (gsCons (gN 5) (gsCons (gN 6) gsNil))) (eBin gIx2 (eV 2) (eV 4))) (sFor (gT 2 (gsCons (gN 7) (gsCons (gN 8) gsNil))) (iOf gEnum (aCons (eV 1) aNil)) inBody)
theorem iOf_ok {g : List W → Option (List D)} {fs : S → R (List W)} {s s1 : S} {ws : List W} {ds : List D} (h1 : fs s = .ok ws s1) (h2 : g ws = some ds) : iOf g fs s = .ok ds s1 := by
  unfold iOf
  rw [h1, PD.R.bind_ok, h2, ofO_some]
theorem pow_toNat (n : Nat) : ((2 : Int) ^ n - 0).toNat = 2 ^ n := by
  have e : ((2 ^ n : Nat) : Int) = (2 : Int) ^ n := by push_cast; rfl
  rw [← e, Int.sub_zero]
  exact Int.toNat_natCast _
theorem out_step {coil : Int} {ps : List Int} {ks : List Key} {vs : List D} {G : Tb} {c : Nat} {x5 x6 x7 x8 x9 x10 : Sl} (hn : ps.length ≤ 10) (hc : c < 2 ^ ps.length) (T : Tab ks vs G) (hG : Good coil (psf ps) ps.length G c 0) (hv : vs.length ≤ 1 + c * 10) :
    ∃ ks' vs' G' y5 y6 y7 y8 y9 y10, outBody (stS coil ps ks vs [.fz (.int c), x5, x6, x7, x8, x9, x10]) = .nx (stS coil ps ks' vs' [.fz (.int c), y5, y6, y7, y8, y9, y10]) ∧ Tab ks' vs' G' ∧ Good coil (psf ps) ps.length G' (c + 1) 0 ∧ vs'.length ≤ 1 + (c + 1) * 10 := by
  obtain ⟨⟨many, cut⟩, hs⟩ := hG.has c (Nat.le_refl _) hc
  have hget := T.get c
  rw [hs] at hget
  have h10 : c < 1024 := Nat.lt_of_lt_of_le hc (Nat.le_trans (Nat.pow_le_pow_right (by decide) hn) (by decide))
  obtain ⟨s', e, h'⟩ := forD_inv (t := gT 2 (gsCons (gN 7) (gsCons (gN 8) gsNil))) (f := inBody) (ds := enumD (iD ps)) (k := 0) (s := stS coil ps ks vs [.fz (.int c), .fz (.int many), .fz (.int cut), x7, x8, x9, x10])
    (fun j s => ∃ ks vs G x7 x8 x9 x10, s = stS coil ps ks vs [.fz (.int c), .fz (.int many), .fz (.int cut), x7, x8, x9, x10] ∧ Tab ks vs G ∧ Good coil (psf ps) ps.length G c j ∧ G c = some (many, cut) ∧ vs.length ≤ 1 + c * 10 + j)
    ⟨ks, vs, G, x7, x8, x9, x10, rfl, T, hG, hs, hv⟩ fun i d s hd ⟨ks, vs, G, x7, x8, x9, x10, e, T, hG, hs, hv⟩ => by
      subst e
      rw [Nat.zero_add] at hG hv ⊢
      obtain ⟨hi, rfl⟩ := enum_i hd
      obtain ⟨ks', vs', G', y9, y10, e, T', hG', hs', hv'⟩ := in_step (coil := coil) (many := many) (cut := cut) (x9 := x9) (x10 := x10) hn hi hc T hG hs (by omega)
      exact ⟨_, by simp [stS], _, e, ks', vs', G', _, _, y9, y10, rfl, T', hG', hs', by omega⟩
  obtain ⟨ks', vs', G', y7, y8, y9, y10, rfl, T', hG', hs', hv'⟩ := h'
  rw [enumD_len, List.length_map, Nat.zero_add] at hG' hv'
  refine ⟨ks', vs', G', .fz (.int many), .fz (.int cut), y7, y8, y9, y10, ?_, T', hG'.turn, by omega⟩
  simp only [stS] at e
  simp [outBody, stS, hget, pD, e]
theorem p_states {coil : Int} {ps : List Int} (hn : ps.length ≤ 10) : ∃ ks vs G, m_states [.int coil, .tup (iD ps)] = .ok (.d (.dic ks vs)) ∧ Tab ks vs G ∧ Good coil (psf ps) ps.length G (2 ^ ps.length) 0 := by
  have hw := p_weights (ds := iD ps) (by rw [List.length_map]; omega)
  rw [List.length_map] at hw
  have hl := wts_last ps.length
  have h10 : (2 : Int) ^ ps.length ≤ 1024 := by
    have := Nat.pow_le_pow_right (n := 2) (by decide) hn
    have e : ((2 ^ ps.length : Nat) : Int) = (2 : Int) ^ ps.length := by push_cast; rfl
    rw [← e]
    have h3 : (2 : Nat) ^ 10 = 1024 := by decide
    rw [h3] at this
    exact Int.ofNat_le.mpr this
  have hr := g_rng1 (j := 2 ^ ps.length) (Int.le_of_lt (Int.pow_pos (by decide))) (by omega)
  obtain ⟨s', e, h'⟩ := forD_inv (t := gN 4) (f := outBody) (ds := rngD 0 (2 ^ ps.length)) (k := 0) (s := stS coil ps [.inl 0] [pD (0, coil)] [.no, .no, .no, .no, .no, .no, .no])
    (fun c s => ∃ ks vs G x4 x5 x6 x7 x8 x9 x10, s = stS coil ps ks vs [x4, x5, x6, x7, x8, x9, x10] ∧ Tab ks vs G ∧ Good coil (psf ps) ps.length G c 0 ∧ vs.length ≤ 1 + c * 10)
    ⟨_, _, (fun m => if m = 0 then some (0, coil) else none), .no, .no, .no, .no, .no, .no, .no, rfl, ⟨rfl, fun m => by
      by_cases hm : m = 0
      · subst hm; simp [dgetK]
      · have : ¬ ((.inl 0 : Key) = .inl (m : Int)) := fun q => by have := Sum.inl.inj q; omega
        simp [dgetK, hm, this]⟩, Good.start, by simp⟩ fun i d s hd ⟨ks, vs, G, x4, x5, x6, x7, x8, x9, x10, e, T, hG, hv⟩ => by
      subst e
      rw [Nat.zero_add] at hG hv ⊢
      rw [rng_get] at hd
      by_cases hi : i < ((2 : Int) ^ ps.length - 0).toNat
      · rw [if_pos hi] at hd
        cases hd
        have hc : i < 2 ^ ps.length := by
          have : ((2 : Int) ^ ps.length - 0).toNat = 2 ^ ps.length := pow_toNat _
          omega
        obtain ⟨ks', vs', G', y5, y6, y7, y8, y9, y10, e, T', hG', hv'⟩ := out_step (coil := coil) (x5 := x5) (x6 := x6) (x7 := x7) (x8 := x8) (x9 := x9) (x10 := x10) hn hc T hG hv
        exact ⟨_, by simp [stS], _, e, ks', vs', G', _, y5, y6, y7, y8, y9, y10, rfl, T', hG', by omega⟩
      · rw [if_neg hi] at hd; cases hd
  obtain ⟨ks', vs', G', y4, y5, y6, y7, y8, y9, y10, rfl, T', hG', hv'⟩ := h'
  have hz : (rngD 0 ((2 : Int) ^ ps.length)).length = 2 ^ ps.length := by rw [rng_len, pow_toNat]
  rw [hz, Nat.zero_add] at hG'
  refine ⟨ks', vs', G', ?_, T', hG'⟩
  unfold m_states runP b_states
  have eo : outBody = sSeq (sAsg (gT 2 (gsCons (gN 5) (gsCons (gN 6) gsNil))) (eBin gIx2 (eV 2) (eV 4))) (sFor (gT 2 (gsCons (gN 7) (gsCons (gN 8) gsNil))) (iOf gEnum (aCons (eV 1) aNil)) inBody) := rfl
  unfold inBody at eo
  rw [← eo]
  have hA : (sPar2 2 3 (rCons (rDisp (kCons (eC (.int 0)) (eTup (aCons (eC (.int 0)) (aCons (eV 0) aNil))) kNil)) (rCons (rDat (eFz (rCall 1 m_weights_of (aCons (eV 1) aNil)))) rNil))) [.fz (.int coil), .fz (.tup (iD ps)), .no, .no, .no, .no, .no, .no, .no, .no, .no] = .nx (stS coil ps [.inl 0] [pD (0, coil)] [.no, .no, .no, .no, .no, .no, .no]) := by
    simp [rDisp, kCons, kNil, keyD, mergeD, putKs, putVs, hasK, hw, stS, pD]
  have hC : sFor (gN 4) (iOf gRng1 (aCons (eBin gIx2 (eV 3) (eUn gNeg (eC (.int 1)))) aNil)) outBody (stS coil ps [.inl 0] [pD (0, coil)] [.no, .no, .no, .no, .no, .no, .no]) = .nx (stS coil ps ks' vs' [y4, y5, y6, y7, y8, y9, y10]) := by
    have hi : iOf gRng1 (aCons (eBin gIx2 (eV 3) (eUn gNeg (eC (.int 1)))) aNil) (stS coil ps [.inl 0] [pD (0, coil)] [.no, .no, .no, .no, .no, .no, .no]) = .ok (rngD 0 (2 ^ ps.length)) (stS coil ps [.inl 0] [pD (0, coil)] [.no, .no, .no, .no, .no, .no, .no]) := by
      have h3 : eBin gIx2 (eV 3) (eUn gNeg (eC (.int 1))) (stS coil ps [.inl 0] [pD (0, coil)] [.no, .no, .no, .no, .no, .no, .no]) = .ok (.d (.int (2 ^ ps.length))) (stS coil ps [.inl 0] [pD (0, coil)] [.no, .no, .no, .no, .no, .no, .no]) := by
        simp [stS, hl]
      exact iOf_ok (by rw [x_aCons, h3]; rfl) hr
    rw [x_for, hi, sBind_ok]
    exact e
  have hD : (sRet (eMv 2)) (stS coil ps ks' vs' [y4, y5, y6, y7, y8, y9, y10]) = .rt (.d (.dic ks' vs')) ((stS coil ps ks' vs' [y4, y5, y6, y7, y8, y9, y10]).set 2 (.fz (.dic ks' vs'))) := by
    simp [stS]
  show (match (sSeq _ (sSeq _ _)) [.fz (.int coil), .fz (.tup (iD ps)), .no, .no, .no, .no, .no, .no, .no, .no, .no] with
    | .nx _ => FR.ok (.d .non) | .rt r _ => .ok r | .er c ns ds _ => .er c ns ds | _ => .st) = _
  rw [x_seq, hA]
  simp only []
  rw [x_seq, hC]
  simp only []
  rw [hD]
end PD

set_option linter.all false
set_option maxRecDepth 100000
set_option maxHeartbeats 1000000
namespace PD
open PySem PySem.Spec PyProof.Rows L2 K13
theorem psf_map (ps : List Int) : (List.range ps.length).map (psf ps) = ps := by
  refine List.ext_getElem? fun i => ?_
  rw [List.getElem?_map]
  by_cases h : i < ps.length
  · rw [List.getElem?_range h, psf_at h]; rfl
  · rw [List.getElem?_eq_none (by simp; omega), List.getElem?_eq_none (by omega)]; rfl
structure Ok (coil : Int) (ps : List Int) : Prop where
  c : 1 ≤ coil ∧ coil ≤ 99
  n : ps.length ≤ 10
  p : ∀ p ∈ ps, 1 ≤ p ∧ p ≤ coil
theorem Ok.at {coil : Int} {ps : List Int} (h : Ok coil ps) {i : Nat} (hi : i < ps.length) : 1 ≤ psf ps i ∧ psf ps i ≤ coil := h.p _ (List.mem_of_getElem? (psf_at hi))
theorem least_of {coil : Int} {ps : List Int} {G : Tb} (h : Ok coil ps) (g : Good coil (psf ps) ps.length G (2 ^ ps.length) 0) {t : K13.St} (e : G (2 ^ ps.length - 1) = some t) : Least coil ps t.1 := by
  have := g.least (by have := h.c; omega) (fun i hi => h.at hi) e
  rw [psf_map] at this
  exact this
theorem full_cast (n : Nat) : ((2 : Int) ^ n - 1) = ((2 ^ n - 1 : Nat) : Int) := by
  have e : ((2 ^ n : Nat) : Int) = (2 : Int) ^ n := by push_cast; rfl
  have := Nat.two_pow_pos n
  rw [← e]; omega
theorem p_fewest {coil : Int} {ps : List Int} (h : Ok coil ps) : ∃ k, m_fewest_coils [.int coil, .tup (iD ps)] = .ok (.d (.int k)) ∧ Least coil ps k := by
  obtain ⟨ks, vs, G, e, T, g⟩ := p_states (coil := coil) h.n
  have hr := p_require h.c h.n h.p
  have hw := p_weights (ds := iD ps) (by rw [List.length_map]; have := h.n; omega)
  rw [List.length_map] at hw
  have hl := wts_last ps.length
  have hp := Nat.two_pow_pos ps.length
  obtain ⟨t, et⟩ := g.has (2 ^ ps.length - 1) (by omega) (by omega)
  have hg := T.get (2 ^ ps.length - 1)
  rw [et, ← full_cast] at hg
  refine ⟨t.1, ?_, least_of h g et⟩
  have h0 : atI [D.int t.1, .int t.2] 0 = some (.int t.1) := rfl
  simp [m_fewest_coils, runP, b_fewest_coils, hr, e, hw, hl, hg, pD, h0]
theorem min_ex {Q : Nat → Prop} {i : Nat} (h : Q i) : ∃ j, Q j ∧ (∀ k, k < j → ¬ Q k) ∧ j ≤ i := by
  induction i using Nat.strongRecOn with
  | _ i ih =>
    by_cases q : ∃ k, k < i ∧ Q k
    · obtain ⟨k, hk, hq⟩ := q
      obtain ⟨j, a, b, c⟩ := ih k hk hq
      exact ⟨j, a, b, by omega⟩
    · exact ⟨i, h, fun k hk hq => q ⟨k, hk, hq⟩, Nat.le_refl _⟩
def lcBody : S → SR := sIf (cVal (eBin gEq (eBin gMod (eBin gDiv (eV 3) (eBin gIx2 (eV 4) (eV 5))) (eC (.int 2))) (eC (.int 1)))) (sSeq (sAsg (gT 2 (gsCons (gN 7) (gsCons (gN 8) gsNil))) (eBin gIx2 (eV 2) (eBin gSub (eV 3) (eBin gIx2 (eV 4) (eV 5))))) (sSeq (sAsg (gN 9) (eIf (cVal (eBin gLe (eBin gAdd (eV 8) (eV 6)) (eV 0))) (eTup (aCons (eV 7) (aCons (eBin gAdd (eV 8) (eV 6)) aNil))) (eTup (aCons (eBin gAdd (eV 7) (eC (.int 1))) (aCons (eV 6) aNil))))) (sIf (cVal (eBin gEq (eV 9) (eBin gIx2 (eV 2) (eV 3)))) (sRet (eV 5)) sNil))) sNil
def lcS (coil : Int) (ps : List Int) (ks : List Key) (vs : List D) (m : Nat) (r : List Sl) : S := .fz (.int coil) :: .fz (.tup (iD ps)) :: .fz (.dic ks vs) :: .fz (.int m) :: .fz (.lst (iD (wts ps.length))) :: r
theorem lc_step {coil : Int} {ps : List Int} {ks : List Key} {vs : List D} {G : Tb} {m j : Nat} {x7 x8 x9 : Sl} (hn : ps.length ≤ 10) (hj : j < ps.length) (T : Tab ks vs G) {t s : K13.St} (ht : G m = some t) (hs : bit m j = 1 → G (m - 2 ^ j) = some s) :
    ∃ y7 y8 y9, lcBody (lcS coil ps ks vs m [.fz (.int j), .fz (.int (psf ps j)), x7, x8, x9]) =
      if bit m j = 1 ∧ K13.step coil s (psf ps j) = t then .rt (.d (.int j)) (lcS coil ps ks vs m [.fz (.int j), .fz (.int (psf ps j)), y7, y8, y9]) else .nx (lcS coil ps ks vs m [.fz (.int j), .fz (.int (psf ps j)), y7, y8, y9]) := by
  have hw := wts_at (n := ps.length) (i := j) (by omega)
  have hd := div_w (n := ps.length) (c := m) (j := j) hn (by omega)
  have hm : gMod [.int ((m : Int) / 2 ^ j), .int 2] = some (.int ((bit m j : Nat) : Int)) := by rw [g_mod (by decide), bitI]
  have hgm := T.get m
  rw [ht] at hgm
  rcases bit01 m j with hb | hb
  · rw [hb] at hm
    refine ⟨x7, x8, x9, ?_⟩
    rw [if_neg (by rw [hb]; simp)]
    simp [lcBody, lcS, hw, hd, hm, gEq_int]
  · have hs := hs hb
    have hge := bit_ge hb
    have hgs := T.get (m - 2 ^ j)
    have hk : ((m - 2 ^ j : Nat) : Int) = (m : Int) - 2 ^ j := by rw [Int.ofNat_sub hge]; push_cast; rfl
    rw [hs, hk] at hgs
    rw [hb] at hm
    obtain ⟨a, b⟩ := s
    refine ⟨.fz (.int a), .fz (.int b), .fz (pD (K13.step coil (a, b) (psf ps j))), ?_⟩
    have told := step_told coil a b (psf ps j)
    have heq := eq_pD (K13.step coil (a, b) (psf ps j)) t
    have e1 : (if bit m j = 1 ∧ K13.step coil (a, b) (psf ps j) = t then SR.rt (.d (.int j)) (lcS coil ps ks vs m [.fz (.int j), .fz (.int (psf ps j)), .fz (.int a), .fz (.int b), .fz (pD (K13.step coil (a, b) (psf ps j)))]) else .nx (lcS coil ps ks vs m [.fz (.int j), .fz (.int (psf ps j)), .fz (.int a), .fz (.int b), .fz (pD (K13.step coil (a, b) (psf ps j)))])) =
      if decide (K13.step coil (a, b) (psf ps j) = t) = true then SR.rt (.d (.int j)) (lcS coil ps ks vs m [.fz (.int j), .fz (.int (psf ps j)), .fz (.int a), .fz (.int b), .fz (pD (K13.step coil (a, b) (psf ps j)))]) else .nx (lcS coil ps ks vs m [.fz (.int j), .fz (.int (psf ps j)), .fz (.int a), .fz (.int b), .fz (pD (K13.step coil (a, b) (psf ps j)))]) := by
      by_cases q : K13.step coil (a, b) (psf ps j) = t <;> simp [hb, q]
    rw [e1]
    generalize decide (K13.step coil (a, b) (psf ps j) = t) = dd at *
    generalize pD (K13.step coil (a, b) (psf ps j)) = tv at *
    have hpd : pD (a, b) = .tup [.int a, .int b] := rfl
    rw [Option.map_some, hpd] at hgs
    rw [Option.map_some] at hgm
    generalize pD t = tp at *
    by_cases hf : b + psf ps j ≤ coil
    · rw [if_pos hf] at told
      subst told
      simp [lcBody, lcS, hw, hd, hm, gEq_int, hf, hgs, hgm, heq]
    · rw [if_neg hf] at told
      subst told
      simp [lcBody, lcS, hw, hd, hm, gEq_int, hf, hgs, hgm, heq]
theorem p_last {coil : Int} {ps : List Int} {ks : List Key} {vs : List D} {G : Tb} {m : Nat} (h : Ok coil ps) (T : Tab ks vs G) (g : Good coil (psf ps) ps.length G (2 ^ ps.length) 0) (hm : m ≠ 0) (hlt : m < 2 ^ ps.length) :
    ∃ (i : Nat) (s : K13.St), i < ps.length ∧ bit m i = 1 ∧ G (m - 2 ^ i) = some s ∧ G m = some (K13.step coil s (psf ps i)) ∧ m_last_cut [.int coil, .tup (iD ps), .dic ks vs, .int m] = .ok (.d (.int i)) := by
  obtain ⟨t, ht⟩ := g.has m (Nat.le_of_lt hlt) hlt
  obtain ⟨i0, s0, hi0, hb0, _, hs0, e0⟩ := g.src m t ht hm
  obtain ⟨i, ⟨hi, hb, s, hs, e⟩, hmin, _⟩ := min_ex (Q := fun i => i < ps.length ∧ bit m i = 1 ∧ ∃ s, G (m - 2 ^ i) = some s ∧ t = K13.step coil s (psf ps i)) ⟨hi0, hb0, s0, hs0, e0⟩
  refine ⟨i, s, hi, hb, hs, by rw [ht, e], ?_⟩
  have hw := p_weights (ds := iD ps) (by rw [List.length_map]; have := h.n; omega)
  rw [List.length_map] at hw
  obtain ⟨s', e'⟩ := forD_first (t := gT 2 (gsCons (gN 5) (gsCons (gN 6) gsNil))) (f := lcBody) (ds := enumD (iD ps)) (k := 0) (j := i) (r := .d (.int i)) (s' := lcS coil ps ks vs m []) (s := lcS coil ps ks vs m [.no, .no, .no, .no, .no]) (dj := .tup [.int i, .int (psf ps i)])
    (fun _ s => ∃ x5 x6 x7 x8 x9, s = lcS coil ps ks vs m [x5, x6, x7, x8, x9]) ⟨_, _, _, _, _, rfl⟩ (by rw [enumD_get, List.getElem?_map, psf_at hi]; rfl)
    (fun j d s hj hd ⟨x5, x6, x7, x8, x9, e⟩ => by
      subst e
      obtain ⟨hjn, rfl⟩ := enum_i hd
      obtain ⟨sj, hsj⟩ : ∃ sj : K13.St, bit m j = 1 → G (m - 2 ^ j) = some sj := by
        obtain ⟨sj, q⟩ := g.has (m - 2 ^ j) (Nat.le_trans (Nat.sub_le _ _) (Nat.le_of_lt hlt)) (Nat.lt_of_le_of_lt (Nat.sub_le _ _) hlt)
        exact ⟨sj, fun _ => q⟩
      obtain ⟨y7, y8, y9, q⟩ := lc_step (coil := coil) (x7 := x7) (x8 := x8) (x9 := x9) h.n hjn T ht hsj
      rw [if_neg (fun z => hmin j hj ⟨hjn, z.1, sj, hsj z.1, z.2.symm⟩)] at q
      exact ⟨_, by simp [lcS], _, q, _, _, _, _, _, rfl⟩)
    (fun s ⟨x5, x6, x7, x8, x9, e2⟩ => by
      subst e2
      obtain ⟨y7, y8, y9, q⟩ := lc_step (coil := coil) (x7 := x7) (x8 := x8) (x9 := x9) h.n hi T ht (fun _ => hs)
      rw [if_pos ⟨hb, e.symm⟩] at q
      exact ⟨_, by simp [lcS], _, q⟩)
  simp only [lcS] at e'
  have eo : lcBody = sIf (cVal (eBin gEq (eBin gMod (eBin gDiv (eV 3) (eBin gIx2 (eV 4) (eV 5))) (eC (.int 2))) (eC (.int 1)))) (sSeq (sAsg (gT 2 (gsCons (gN 7) (gsCons (gN 8) gsNil))) (eBin gIx2 (eV 2) (eBin gSub (eV 3) (eBin gIx2 (eV 4) (eV 5))))) (sSeq (sAsg (gN 9) (eIf (cVal (eBin gLe (eBin gAdd (eV 8) (eV 6)) (eV 0))) (eTup (aCons (eV 7) (aCons (eBin gAdd (eV 8) (eV 6)) aNil))) (eTup (aCons (eBin gAdd (eV 7) (eC (.int 1))) (aCons (eV 6) aNil))))) (sIf (cVal (eBin gEq (eV 9) (eBin gIx2 (eV 2) (eV 3)))) (sRet (eV 5)) sNil))) sNil := rfl
  unfold m_last_cut runP b_last_cut
  rw [← eo]
  generalize lcBody = ob at e'
  simp [hw, e']
end PD

set_option linter.all false
set_option maxRecDepth 100000
set_option maxHeartbeats 1000000
namespace PD
open PySem PySem.Spec PyProof.Rows L2 K13
theorem sum_perm {l l' : List Int} (h : l.Perm l') : l.sum = l'.sum := by
  induction h with
  | nil => rfl
  | cons x _ ih => rw [List.sum_cons, List.sum_cons, ih]
  | swap x y l => simp only [List.sum_cons]; omega
  | trans _ _ h1 h2 => rw [h1, h2]
def pP (ps : List Int) (z : Int) : Int := psf ps z.toNat
structure CutI (coil : Int) (ps : List Int) (G : Tb) (k : Int) (m : Nat) (rs : List (List Int)) (rw : List Int) : Prop where
  lt : m < 2 ^ ps.length
  nd : (rs.flatten ++ rw).Nodup
  mem : ∀ z : Int, z ∈ rs.flatten ++ rw ↔ ∃ j : Nat, j < ps.length ∧ z = j ∧ bit m j = 0
  rows : ∀ r ∈ rs, r ≠ [] ∧ srt r = r ∧ (r.map (pP ps)).sum ≤ coil
  t : ∃ t, G m = some t ∧ (rw.map (pP ps)).sum + t.2 ≤ coil ∧ (rs.length : Int) + t.1 = k
  z : m = 0 → rw = []
  b1 : rs.length + m < 2 ^ ps.length
  b2 : rw.length + m < 2 ^ ps.length
theorem good_le {coil : Int} {ps : List Int} {G : Tb} (h : Ok coil ps) (g : Good coil (psf ps) ps.length G (2 ^ ps.length) 0) {m : Nat} {s : K13.St} (e : G m = some s) : s.2 ≤ coil := by
  by_cases hm : m = 0
  · subst hm; rw [g.zero] at e; cases e; exact Int.le_refl _
  · obtain ⟨i, s', hi, _, _, _, rfl⟩ := g.src m s e hm
    have := (h.at hi).2
    unfold K13.step
    split <;> simp only <;> omega
theorem cut_next {coil : Int} {ps : List Int} {G : Tb} {k : Int} {m i : Nat} {rs : List (List Int)} {rw : List Int} (h : Ok coil ps) (g : Good coil (psf ps) ps.length G (2 ^ ps.length) 0) (C : CutI coil ps G k m rs rw) {s : K13.St} (hi : i < ps.length) (hb : bit m i = 1) (hs : G (m - 2 ^ i) = some s) (ht : G m = some (K13.step coil s (psf ps i))) :
    (s.2 + psf ps i ≤ coil → CutI coil ps G k (m - 2 ^ i) rs (rw ++ [(i : Int)])) ∧ (¬ s.2 + psf ps i ≤ coil → CutI coil ps G k (m - 2 ^ i) (rs ++ [srt (rw ++ [(i : Int)])]) []) := by
  obtain ⟨t, ht', hsum, hk⟩ := C.t
  rw [ht] at ht'; cases ht'
  have hp2 := Nat.two_pow_pos i
  have hge := bit_ge hb
  have hlt := C.lt
  have hpi := h.at hi
  have hni : (i : Int) ∉ rs.flatten ++ rw := fun q => by
    obtain ⟨j, _, e, z⟩ := (C.mem _).mp q
    have : i = j := by omega
    subst this
    rw [hb] at z; cases z
  have memN : ∀ z : Int, (z ∈ rs.flatten ++ rw ∨ z = i) ↔ ∃ j : Nat, j < ps.length ∧ z = j ∧ bit (m - 2 ^ i) j = 0 := fun z => by
    rw [C.mem]
    constructor
    · rintro (⟨j, h1, h2, h3⟩ | rfl)
      · refine ⟨j, h1, h2, ?_⟩
        rw [bit_sub_ne hb (fun q => by rw [q, hb] at h3; cases h3)]
        exact h3
      · exact ⟨i, hi, rfl, bit_sub hb⟩
    · rintro ⟨j, h1, h2, h3⟩
      by_cases q : j = i
      · right; rw [h2, q]
      · left; exact ⟨j, h1, h2, by rw [bit_sub_ne hb q] at h3; exact h3⟩
  have ndN : ((rs.flatten ++ rw) ++ [(i : Int)]).Nodup := by
    refine List.nodup_append.mpr ⟨C.nd, by simp, fun a ha b hb' => ?_⟩
    rw [List.mem_singleton.mp hb']
    exact fun q => hni (q ▸ ha)
  have b1 := C.b1
  have b2 := C.b2
  have eP : pP ps (i : Int) = psf ps i := by unfold pP; simp
  constructor
  · intro hf
    have es : K13.step coil s (psf ps i) = (s.1, s.2 + psf ps i) := by unfold K13.step; rw [if_pos hf]
    rw [es] at hsum hk
    simp only at hsum hk
    refine ⟨by omega, by rw [← List.append_assoc]; exact ndN, fun z => ?_, C.rows, ⟨s, hs, ?_, hk⟩, fun hz => ?_, by omega, ?_⟩
    · rw [← memN z, ← List.append_assoc, List.mem_append, List.mem_singleton]
    · rw [List.map_append, List.sum_append]
      simp [eP]
      omega
    · rw [hz, g.zero] at hs
      cases hs
      simp only at hf
      omega
    · rw [List.length_append, List.length_singleton]; omega
  · intro hf
    have es : K13.step coil s (psf ps i) = (s.1 + 1, psf ps i) := by unfold K13.step; rw [if_neg hf]
    rw [es] at hsum hk
    simp only at hsum hk
    have pe : ((rs ++ [srt (rw ++ [(i : Int)])]).flatten ++ []).Perm ((rs.flatten ++ rw) ++ [(i : Int)]) := by
      rw [List.append_nil, List.flatten_append, List.append_assoc]
      refine List.Perm.append_left _ ?_
      simpa using srt_perm (rw ++ [(i : Int)])
    refine ⟨by omega, pe.symm.nodup ndN, fun z => ?_, fun r hr => ?_, ⟨s, hs, ?_, ?_⟩, fun _ => rfl, ?_, ?_⟩
    · rw [pe.mem_iff, List.mem_append, List.mem_singleton]
      exact memN z
    · rcases List.mem_append.mp hr with hr | hr
      · exact C.rows r hr
      · rw [List.mem_singleton.mp hr]
        refine ⟨fun q => ?_, srt_srt _, ?_⟩
        · have := (srt_perm (rw ++ [(i : Int)])).length_eq
          rw [q] at this; simp at this
        · have := sum_perm ((srt_perm (rw ++ [(i : Int)])).map (pP ps))
          rw [this, List.map_append, List.sum_append]
          simp [eP]
          omega
    · have := good_le h g hs
      simpa using this
    · rw [List.length_append, List.length_singleton]; push_cast; omega
    · rw [List.length_append, List.length_singleton]; omega
    · simp; omega
def cuS (coil : Int) (ps : List Int) (ks : List Key) (vs : List D) (m : Nat) (rs : List (List Int)) (rw : List Int) (r : List Sl) : S :=
  .fz (.int coil) :: .fz (.tup (iD ps)) :: .fz (.dic ks vs) :: .fz (.lst (iD (wts ps.length))) :: .fz (.int m) :: .ow (.lst (rD_ rs)) :: .ow (.lst (iD rw)) :: r
noncomputable def wB : S → SR := sSeq (sAsg (gN 7) (eFz (rCall 4 m_last_cut (aCons (eV 0) (aCons (eV 1) (aCons (eV 2) (aCons (eV 4) aNil))))))) (sSeq (sApp 6 (eV 7)) (sSeq (sAug 4 iSub (eBin gIx2 (eV 3) (eV 7))) (sSeq (sAsg (gT 2 (gsCons (gN 8) (gsCons (gN 9) gsNil))) (eBin gIx2 (eV 2) (eV 4))) (sIf (cVal (eBin gGt (eBin gAdd (eV 9) (eBin gIx2 (eV 1) (eV 7))) (eV 0))) (sSeq (sApp 5 (eApp gTuple (aCons (eApp gSorted (aCons (eV 6) aNil)) aNil))) (sOwn 6 (rLst aNil))) sNil))))
theorem psf_atI {ps : List Int} {i : Nat} (h : i < ps.length) : atI (iD ps) (i : Int) = some (.int (psf ps i)) := by
  rw [atI_nat (by rw [List.length_map]; exact h)]
  have := psf_at h
  rw [List.getElem?_eq_getElem h] at this
  simp [Option.some.inj this]
theorem cut_step {coil : Int} {ps : List Int} {ks : List Key} {vs : List D} {G : Tb} {k : Int} {m : Nat} {rs : List (List Int)} {rw : List Int} {x7 x8 x9 : Sl} (h : Ok coil ps) (T : Tab ks vs G) (g : Good coil (psf ps) ps.length G (2 ^ ps.length) 0) (C : CutI coil ps G k m rs rw) (hm : m ≠ 0) :
    ∃ m' rs' rw' y7 y8 y9, m' < m ∧ CutI coil ps G k m' rs' rw' ∧ wB (cuS coil ps ks vs m rs rw [x7, x8, x9]) = .nx (cuS coil ps ks vs m' rs' rw' [y7, y8, y9]) := by
  obtain ⟨i, s, hi, hb, hs, ht, el⟩ := p_last h T g hm C.lt
  obtain ⟨n1, n2⟩ := cut_next h g C hi hb hs ht
  have hp2 := Nat.two_pow_pos i
  have hge := bit_ge hb
  have hw := wts_at (n := ps.length) (i := i) (by omega)
  have hpi := psf_atI hi
  have hk : ((m - 2 ^ i : Nat) : Int) = (m : Int) - 2 ^ i := by rw [Int.ofNat_sub hge]; push_cast; rfl
  have hg := T.get (m - 2 ^ i)
  have h10 : 2 ^ ps.length ≤ 1024 := Nat.le_trans (Nat.pow_le_pow_right (by decide) h.n) (by decide)
  have b1 := C.b1
  have b2 := C.b2
  rw [hs, hk] at hg
  obtain ⟨a, b⟩ := s
  have hpd : pD (a, b) = .tup [.int a, .int b] := rfl
  rw [Option.map_some, hpd] at hg
  have l1 : rs.length < lim := by unfold lim; omega
  have l2 : rw.length < lim := by unfold lim; omega
  have l3 : (rw ++ [(i : Int)]).length ≤ lim := by rw [List.length_append, List.length_singleton]; unfold lim; omega
  have hso := gSorted_lI l3
  by_cases hf : b + psf ps i ≤ coil
  · refine ⟨m - 2 ^ i, rs, rw ++ [(i : Int)], .fz (.int i), .fz (.int a), .fz (.int b), by omega, n1 hf, ?_⟩
    have hf' : ¬ coil < b + psf ps i := by omega
    simp [wB, cuS, el, sAug, iSub, isOwnL, l2, hw, hk, hg, hpi, hf']
  · refine ⟨m - 2 ^ i, rs ++ [srt (rw ++ [(i : Int)])], [], .fz (.int i), .fz (.int a), .fz (.int b), by omega, n2 hf, ?_⟩
    have hf' : coil < b + psf ps i := by omega
    simp only [iD, List.map_append, List.map_cons, List.map_nil] at hso
    simp [wB, cuS, el, sAug, iSub, isOwnL, l1, l2, hw, hk, hg, hpi, hf', hso]
theorem cut_run {coil : Int} {ps : List Int} {ks : List Key} {vs : List D} {G : Tb} {k : Int} (h : Ok coil ps) (T : Tab ks vs G) (g : Good coil (psf ps) ps.length G (2 ^ ps.length) 0) : ∀ (m : Nat) (rs : List (List Int)) (rw : List Int) (x7 x8 x9 : Sl), CutI coil ps G k m rs rw →
    ∃ N rs' y7 y8 y9, whileN (cVal (eBin gGt (eV 4) (eC (.int 0)))) wB N (cuS coil ps ks vs m rs rw [x7, x8, x9]) = some (.nx (cuS coil ps ks vs 0 rs' [] [y7, y8, y9])) ∧ CutI coil ps G k 0 rs' [] := by
  intro m
  induction m using Nat.strongRecOn with
  | _ m ih =>
    intro rs rw x7 x8 x9 C
    by_cases hm : m = 0
    · subst hm
      have := C.z rfl
      subst this
      refine ⟨1, rs, x7, x8, x9, ?_, C⟩
      have : cVal (eBin gGt (eV 4) (eC (.int 0))) (cuS coil ps ks vs 0 rs [] [x7, x8, x9]) = .ok false (cuS coil ps ks vs 0 rs [] [x7, x8, x9]) := by simp [cuS]
      simp only [whileN, this]
    · obtain ⟨m', rs', rw', y7, y8, y9, hlt, C', e⟩ := cut_step (x7 := x7) (x8 := x8) (x9 := x9) h T g C hm
      obtain ⟨N, rs2, z7, z8, z9, e2, C2⟩ := ih m' hlt rs' rw' y7 y8 y9 C'
      refine ⟨N + 1, rs2, z7, z8, z9, ?_, C2⟩
      have : cVal (eBin gGt (eV 4) (eC (.int 0))) (cuS coil ps ks vs m rs rw [x7, x8, x9]) = .ok true (cuS coil ps ks vs m rs rw [x7, x8, x9]) := by
        have : (0 : Int) < m := by omega
        simp [cuS, this]; omega
      simp only [whileN, this, e, e2]
end PD

set_option linter.all false
set_option maxRecDepth 100000
set_option maxHeartbeats 1000000
namespace PD
open PySem PySem.Spec PyProof.Rows L2 K13
structure Cutting (coil : Int) (ps : List Int) (k : Int) (rs : List (List Int)) : Prop where
  so : srtR rs = rs
  rows : ∀ r ∈ rs, r ≠ [] ∧ srt r = r ∧ (r.map (pP ps)).sum ≤ coil
  perm : rs.flatten.Perm ((List.range ps.length).map fun i : Nat => (i : Int))
  len : (rs.length : Int) = k
theorem bit_full {n j : Nat} (h : j < n) : bit (2 ^ n - 1) j = 1 := by
  refine bit_one_iff.mpr ?_
  rw [Nat.testBit_two_pow_sub_one]
  simpa using h
theorem range_nd (n : Nat) : ((List.range n).map fun i : Nat => (i : Int)).Nodup := by
  refine List.Pairwise.map _ (fun a b h => ?_) List.nodup_range
  intro q
  exact h (by omega)
theorem p_cutting {coil : Int} {ps : List Int} (h : Ok coil ps) : ∃ k rs, m_cutting [.int coil, .tup (iD ps)] = .ok (.d (.tup (rD_ rs))) ∧ Cutting coil ps k rs ∧ Least coil ps k := by
  obtain ⟨ks, vs, G, e, T, g⟩ := p_states (coil := coil) h.n
  have hr := p_require h.c h.n h.p
  have hw := p_weights (ds := iD ps) (by rw [List.length_map]; have := h.n; omega)
  rw [List.length_map] at hw
  have hl := wts_last ps.length
  have hp := Nat.two_pow_pos ps.length
  obtain ⟨t, et⟩ := g.has (2 ^ ps.length - 1) (by omega) (by omega)
  have C0 : CutI coil ps G t.1 (2 ^ ps.length - 1) [] [] := by
    refine ⟨by omega, by simp, fun z => ?_, fun r hr => (by cases hr), ⟨t, et, ?_, by simp⟩, fun _ => rfl, by simp; omega, by simp; omega⟩
    · constructor
      · intro q; cases q
      · rintro ⟨j, h1, _, h3⟩
        rw [bit_full h1] at h3; cases h3
    · have := good_le h g et
      simpa using this
  obtain ⟨N, rs, y7, y8, y9, ew, C⟩ := cut_run h T g (2 ^ ps.length - 1) [] [] .no .no .no C0
  obtain ⟨t0, e0, _, hk⟩ := C.t
  rw [g.zero] at e0; cases e0
  have hlen : rs.length < 1024 := Nat.lt_of_lt_of_le (Nat.lt_of_le_of_lt (Nat.le_add_right _ _) C.b1) (Nat.le_trans (Nat.pow_le_pow_right (by decide) h.n) (by decide))
  have hso := gSorted_lR (rs := rs) (by unfold lim; omega) fun r hr => (C.rows r hr).1
  refine ⟨t.1, srtR rs, ?_, ⟨srtR_srtR rs, fun r hr => C.rows r ((srtR_perm rs).subset hr), ?_, ?_⟩, least_of h g et⟩
  · have hW := sWhile_eq ew
    have hA : (sPar3 4 5 6 (rCons (rDat (eBin gSub (eBin gIx2 (eV 3) (eUn gNeg (eC (.int 1)))) (eC (.int 1)))) (rCons (rLst aNil) (rCons (rLst aNil) rNil)))) [.fz (.int coil), .fz (.tup (iD ps)), .fz (.dic ks vs), .fz (.lst (iD (wts ps.length))), .no, .no, .no, .no, .no, .no] =
        .nx (cuS coil ps ks vs (2 ^ ps.length - 1) [] [] [.no, .no, .no]) := by
      rw [cuS, ← full_cast]
      simp [sPar3, hl]
    have hB : (sPar2 2 3 (rCons (rDat (eFz (rCall 2 m_states (aCons (eV 0) (aCons (eV 1) aNil))))) (rCons (rDat (eFz (rCall 1 m_weights_of (aCons (eV 1) aNil)))) rNil))) [.fz (.int coil), .fz (.tup (iD ps)), .no, .no, .no, .no, .no, .no, .no, .no] =
        .nx [.fz (.int coil), .fz (.tup (iD ps)), .fz (.dic ks vs), .fz (.lst (iD (wts ps.length))), .no, .no, .no, .no, .no, .no] := by
      simp [e, hw]
    have hC : (sDrop (eFz (rCall 2 m_require_pieces (aCons (eV 0) (aCons (eV 1) aNil))))) [.fz (.int coil), .fz (.tup (iD ps)), .no, .no, .no, .no, .no, .no, .no, .no] = .nx [.fz (.int coil), .fz (.tup (iD ps)), .no, .no, .no, .no, .no, .no, .no, .no] := by
      simp [hr]
    have hD : (sRet (eApp gTuple (aCons (eApp gSorted (aCons (eV 5) aNil)) aNil))) (cuS coil ps ks vs 0 rs [] [y7, y8, y9]) = .rt (.d (.tup (rD_ (srtR rs)))) (cuS coil ps ks vs 0 rs [] [y7, y8, y9]) := by
      simp [cuS, hso]
    have eo : wB = sSeq (sAsg (gN 7) (eFz (rCall 4 m_last_cut (aCons (eV 0) (aCons (eV 1) (aCons (eV 2) (aCons (eV 4) aNil))))))) (sSeq (sApp 6 (eV 7)) (sSeq (sAug 4 iSub (eBin gIx2 (eV 3) (eV 7))) (sSeq (sAsg (gT 2 (gsCons (gN 8) (gsCons (gN 9) gsNil))) (eBin gIx2 (eV 2) (eV 4))) (sIf (cVal (eBin gGt (eBin gAdd (eV 9) (eBin gIx2 (eV 1) (eV 7))) (eV 0))) (sSeq (sApp 5 (eApp gTuple (aCons (eApp gSorted (aCons (eV 6) aNil)) aNil))) (sOwn 6 (rLst aNil))) sNil)))) := rfl
    unfold m_cutting runP b_cutting
    rw [← eo]
    generalize wB = ob at hW
    show (match (sSeq _ (sSeq _ (sSeq _ (sSeq _ _)))) [.fz (.int coil), .fz (.tup (iD ps)), .no, .no, .no, .no, .no, .no, .no, .no] with
      | .nx _ => FR.ok (.d .non) | .rt r _ => .ok r | .er c ns ds _ => .er c ns ds | _ => .st) = _
    rw [x_seq, hC]
    simp only []
    rw [x_seq, hB]
    simp only []
    rw [x_seq, hA]
    simp only []
    rw [x_seq, hW]
    simp only []
    rw [hD]
  · refine ((srtR_perm rs).flatten).trans ?_
    have nd := C.nd
    rw [List.append_nil] at nd
    refine (List.perm_ext_iff_of_nodup nd (range_nd _)).mpr fun z => ?_
    have := C.mem z
    rw [List.append_nil] at this
    rw [this, List.mem_map]
    constructor
    · rintro ⟨j, h1, h2, _⟩; exact ⟨j, List.mem_range.mpr h1, h2.symm⟩
    · rintro ⟨j, h1, h2⟩; exact ⟨j, List.mem_range.mp h1, h2.symm, bit_zero j⟩
  · rw [(srtR_perm rs).length_eq]
    simpa using hk
end PD

set_option linter.all false
set_option maxRecDepth 100000
set_option maxHeartbeats 1000000
namespace PD
open PySem PySem.Spec PyProof.Rows L2 K13
/-! ### comprehensions -/
theorem lcD_map {vs : List Nat} {t : D → S → R Unit} {c : S → R Bool} {f : S → R W} {s0 : S} (g : D → D) : ∀ {ds : List D}, (∀ d ∈ ds, ∃ s1, t d s0 = .ok () s1 ∧ c s1 = .ok true s1 ∧ f s1 = .ok (.d (g d)) s1 ∧ noOwn vs s1 = true ∧ clr vs s1 = s0) → lcD vs t c f ds s0 = .ok (ds.map g) s0
  | [], _ => rfl
  | d :: ds, h => by
    obtain ⟨s1, e1, e2, e3, e4, e5⟩ := h d List.mem_cons_self
    have ih := lcD_map g (ds := ds) fun x hx => h x (List.mem_cons_of_mem _ hx)
    simp only [lcD, e1, e2, e3, PD.R.bind_ok, if_true, x_fzW, e4, e5, ih, List.map_cons]
theorem eLcD_map {vs : List Nat} {t : D → S → R Unit} {c : S → R Bool} {f : S → R W} {fi : S → R (List D)} {s s1 : S} {ds : List D} (g : D → D) (h0 : fi s = .ok ds s1) (h1 : noOwn vs s1 = true) (hl : ds.length ≤ lim)
    (h : ∀ d ∈ ds, ∃ s2, t d (clr vs s1) = .ok () s2 ∧ c s2 = .ok true s2 ∧ f s2 = .ok (.d (g d)) s2 ∧ noOwn vs s2 = true ∧ clr vs s2 = clr vs s1) (hr : rst vs s1 (clr vs s1) = s1) : eLcD vs t fi c f s = .ok (.d (.lst (ds.map g))) s1 := by
  unfold eLcD eLc
  rw [h0, PD.R.bind_ok, if_pos ⟨h1, hl⟩, lcD_map g h]
  simp only [PD.R.bind_ok, hr]
theorem lc2_flat {vs vs1 : List Nat} {t : D → S → R Unit} {c : S → R Bool} {fi1 : S → R (List D)} {t1 : D → S → R Unit} {c1 : S → R Bool} {f : S → R W} {s0 : S} (g : D → List D) : ∀ {ds : List D}, (∀ d ∈ ds, ∃ s1 s4, t d s0 = .ok () s1 ∧ c s1 = .ok true s1 ∧ (∃ ds1 s3, fi1 s1 = .ok ds1 s3 ∧ noOwn vs1 s3 = true ∧ lcD vs1 t1 c1 f ds1 (clr vs1 s3) = .ok (g d) s4) ∧ noOwn vs s4 = true ∧ clr vs s4 = s0) → lc2D vs vs1 t c fi1 t1 c1 f ds s0 = .ok ((ds.map g).flatten) s0
  | [], _ => rfl
  | d :: ds, h => by
    obtain ⟨s1, s4, e1, e2, ⟨ds1, s3, e3, e6, e7⟩, e4, e5⟩ := h d List.mem_cons_self
    have ih := lc2_flat g (ds := ds) fun x hx => h x (List.mem_cons_of_mem _ hx)
    simp only [lc2D, e1, e2, PD.R.bind_ok, if_true, e3, e6, e7, e4, e5, ih, List.map_cons, List.flatten_cons]
theorem all_true {α : Type} (xs : List α) : gAll [.lst (xs.map fun _ => D.bl true)] = some (.bl true) := by
  have : allBl (xs.map fun _ => D.bl true) = some (xs.map fun _ => true) := by
    induction xs with
    | nil => rfl
    | cons x xs ih => simp [allBl, ih]
  simp [gAll, this]
theorem mem_rD {rs : List (List Int)} {d : D} (h : d ∈ rD_ rs) : ∃ r ∈ rs, d = .tup (iD r) := by
  obtain ⟨r, h1, h2⟩ := List.mem_map.mp h
  exact ⟨r, h1, h2.symm⟩
theorem mem_iD {ns : List Int} {d : D} (h : d ∈ iD ns) : ∃ r ∈ ns, d = .int r := by
  obtain ⟨r, h1, h2⟩ := List.mem_map.mp h
  exact ⟨r, h1, h2.symm⟩
theorem Cutting.small {coil k : Int} {ps : List Int} {rs : List (List Int)} (C : Cutting coil ps k rs) (hn : ps.length ≤ 10) : rs.flatten.length ≤ 10 ∧ rs.length ≤ 10 ∧ ∀ r ∈ rs, r.length ≤ 10 ∧ ∀ z ∈ r, ∃ j : Nat, j < ps.length ∧ z = j := by
  have h1 : rs.flatten.length ≤ 10 := by rw [C.perm.length_eq]; simpa using hn
  have h2 : ∀ rs : List (List Int), (∀ r ∈ rs, r ≠ []) → rs.length ≤ rs.flatten.length := by
    intro rs
    induction rs with
    | nil => intro _; simp
    | cons r rs ih =>
      intro h
      have := ih fun x hx => h x (List.mem_cons_of_mem _ hx)
      have h0 := h r List.mem_cons_self
      rw [List.flatten_cons, List.length_append, List.length_cons]
      have : 0 < r.length := List.length_pos_iff.mpr h0
      omega
  refine ⟨h1, Nat.le_trans (h2 rs fun r hr => (C.rows r hr).1) h1, fun r hr => ⟨?_, fun z hz => ?_⟩⟩
  · have : r.length ≤ rs.flatten.length := (List.sublist_flatten_of_mem hr).length_le
    omega
  · have := C.perm.subset (List.mem_flatten.mpr ⟨r, hr, hz⟩)
    obtain ⟨j, h3, h4⟩ := List.mem_map.mp this
    exact ⟨j, List.mem_range.mp h3, h4.symm⟩
theorem range_sorted (n : Nat) : ((List.range n).map fun i : Nat => (i : Int)).Pairwise (· ≤ ·) := by
  refine List.Pairwise.map _ (fun a b h => ?_) (List.pairwise_lt_range (n := n))
  omega
theorem sum_at {ps : List Int} {r : List Int} (h : ∀ z ∈ r, ∃ j : Nat, j < ps.length ∧ z = j) : gSumT [.lst ((iD r).map fun d => match d with | .int z => D.int (pP ps z) | d => d)] = some (.int (r.map (pP ps)).sum) := by
  have : ((iD r).map fun d => match d with | .int z => D.int (pP ps z) | d => d) = iD (r.map (pP ps)) := by simp [iD]
  rw [this]
  simp only [gSumT, gSum, allInt_iD, Option.map_some]
theorem at_pP {ps : List Int} {z : Int} (h : ∃ j : Nat, j < ps.length ∧ z = j) : atI (iD ps) z = some (.int (pP ps z)) := by
  obtain ⟨j, h1, rfl⟩ := h
  rw [psf_atI h1]
  simp [pP]
theorem gLRg {n : Nat} (h : n ≤ 10) : gLRg1 [.int n] = some (.lst (iD ((List.range n).map fun i : Nat => (i : Int)))) := by
  unfold gLRg1
  simp only
  rw [if_pos ⟨by omega, by omega⟩]
  simp [iD]
theorem p_isCut {coil k : Int} {ps : List Int} {rs : List (List Int)} (h : Ok coil ps) (C : Cutting coil ps k rs) : m_is_cutting [.int coil, .tup (iD ps), .tup (rD_ rs)] = .ok (.d (.bl true)) := by
  have hr := p_require h.c h.n h.p
  obtain ⟨l1, l2, l3⟩ := C.small h.n
  have L1 : ∀ s3 x5, (eLcD [4] (gN 4) (iSeq (eV 2)) tYesD (eAnd (eUn (gIsi "tuple") (eV 4)) (eBin gNe (eV 4) (eTup aNil)))) [.fz (.int coil), .fz (.tup (iD ps)), .fz (.tup (rD_ rs)), s3, .no, x5] = .ok (.d (.lst ((rD_ rs).map fun _ => .bl true))) [.fz (.int coil), .fz (.tup (iD ps)), .fz (.tup (rD_ rs)), s3, .no, x5] := by
    intro s3 x5
    refine eLcD_map (ds := rD_ rs) (fun _ => .bl true) (by simp) rfl (by rw [List.length_map]; unfold lim; omega) (fun d hd => ?_) rfl
    obtain ⟨r, hr1, rfl⟩ := mem_rD hd
    have hne := (C.rows r hr1).1
    have hg : gNe [.tup (iD r), .tup []] = some (.bl true) := by
      have := gNe_tI r []
      rw [decide_eq_false hne] at this
      exact this
    exact ⟨[.fz (.int coil), .fz (.tup (iD ps)), .fz (.tup (rD_ rs)), s3, .fz (.tup (iD r)), x5], by simp [clr], rfl, by simp [itt, hg], rfl, rfl⟩
  have hflat : ((rD_ rs).map fun d => match d with | .tup xs => xs | _ => []).flatten = iD rs.flatten := by
    rw [iD, List.map_flatten, List.map_map]
    rfl
  have L2 : (eLc2D [4, 5] [5] (gN 4) (iSeq (eV 2)) tYesD (iSeq (eV 4)) (gN 5) tYesD (eV 5)) [.fz (.int coil), .fz (.tup (iD ps)), .fz (.tup (rD_ rs)), .no, .no, .no] = .ok (.d (.lst (iD rs.flatten))) [.fz (.int coil), .fz (.tup (iD ps)), .fz (.tup (rD_ rs)), .no, .no, .no] := by
    unfold eLc2D
    have h0 : iSeq (eV 2) [.fz (.int coil), .fz (.tup (iD ps)), .fz (.tup (rD_ rs)), .no, .no, .no] = .ok (rD_ rs) [.fz (.int coil), .fz (.tup (iD ps)), .fz (.tup (rD_ rs)), .no, .no, .no] := by simp
    have hno : noOwn [4, 5] [.fz (.int coil), .fz (.tup (iD ps)), .fz (.tup (rD_ rs)), .no, .no, .no] = true := rfl
    rw [h0, PD.R.bind_ok, if_pos hno]
    have := lc2_flat (vs := [4, 5]) (vs1 := [5]) (t := gN 4) (c := tYesD) (fi1 := iSeq (eV 4)) (t1 := gN 5) (c1 := tYesD) (f := eV 5) (s0 := [.fz (.int coil), .fz (.tup (iD ps)), .fz (.tup (rD_ rs)), .no, .no, .no]) (fun d => match d with | .tup xs => xs | _ => []) (ds := rD_ rs) fun d hd => by
      obtain ⟨r, hr1, rfl⟩ := mem_rD hd
      refine ⟨[.fz (.int coil), .fz (.tup (iD ps)), .fz (.tup (rD_ rs)), .no, .fz (.tup (iD r)), .no], [.fz (.int coil), .fz (.tup (iD ps)), .fz (.tup (rD_ rs)), .no, .fz (.tup (iD r)), .no], by simp, rfl, ⟨iD r, [.fz (.int coil), .fz (.tup (iD ps)), .fz (.tup (rD_ rs)), .no, .fz (.tup (iD r)), .no], by simp, rfl, ?_⟩, rfl, rfl⟩
      have := lcD_map (vs := [5]) (t := gN 5) (c := tYesD) (f := eV 5) (s0 := [.fz (.int coil), .fz (.tup (iD ps)), .fz (.tup (rD_ rs)), .no, .fz (.tup (iD r)), .no]) id (ds := iD r) fun d _ => ⟨[.fz (.int coil), .fz (.tup (iD ps)), .fz (.tup (rD_ rs)), .no, .fz (.tup (iD r)), .fz d], by simp, rfl, by simp, by
        cases d <;> rfl, rfl⟩
      rw [List.map_id] at this
      exact this
    show (match lc2D [4, 5] [5] (gN 4) tYesD (iSeq (eV 4)) (gN 5) tYesD (eV 5) (rD_ rs) [.fz (.int coil), .fz (.tup (iD ps)), .fz (.tup (rD_ rs)), .no, .no, .no] with
      | .ok xs s2 => if xs.length ≤ lim then R.ok (W.d (.lst xs)) (rst [4, 5] [.fz (.int coil), .fz (.tup (iD ps)), .fz (.tup (rD_ rs)), .no, .no, .no] s2) else .st
      | _ => .st) = _
    rw [this, hflat]
    simp only []
    rw [if_pos (by rw [List.length_map]; unfold lim; omega)]
    rfl
  have L3 : (eLcD [5] (gN 5) (iSeq (eV 3)) tYesD (eFz (rCall 1 m_is_whole (aCons (eV 5) aNil)))) [.fz (.int coil), .fz (.tup (iD ps)), .fz (.tup (rD_ rs)), .fz (.lst (iD rs.flatten)), .no, .no] = .ok (.d (.lst ((iD rs.flatten).map fun _ => .bl true))) [.fz (.int coil), .fz (.tup (iD ps)), .fz (.tup (rD_ rs)), .fz (.lst (iD rs.flatten)), .no, .no] := by
    refine eLcD_map (ds := iD rs.flatten) (fun _ => .bl true) (by simp) rfl (by rw [List.length_map]; unfold lim; omega) (fun d hd => ?_) rfl
    obtain ⟨z, _, rfl⟩ := mem_iD hd
    exact ⟨[.fz (.int coil), .fz (.tup (iD ps)), .fz (.tup (rD_ rs)), .fz (.lst (iD rs.flatten)), .no, .fz (.int z)], by simp [clr], rfl, by simp [p_whole], rfl, rfl⟩
  have L4 : (eLcD [4] (gN 4) (iSeq (eV 2)) tYesD (eBin gEq (eApp gList (aCons (eV 4) aNil)) (eApp gSorted (aCons (eV 4) aNil)))) [.fz (.int coil), .fz (.tup (iD ps)), .fz (.tup (rD_ rs)), .fz (.lst (iD rs.flatten)), .no, .no] = .ok (.d (.lst ((rD_ rs).map fun _ => .bl true))) [.fz (.int coil), .fz (.tup (iD ps)), .fz (.tup (rD_ rs)), .fz (.lst (iD rs.flatten)), .no, .no] := by
    refine eLcD_map (ds := rD_ rs) (fun _ => .bl true) (by simp) rfl (by rw [List.length_map]; unfold lim; omega) (fun d hd => ?_) rfl
    obtain ⟨r, hr1, rfl⟩ := mem_rD hd
    have hg := gEq_self (dok_lI r)
    have hs := gSorted_tI (ns := r) (by have := (l3 r hr1).1; unfold lim; omega)
    rw [(C.rows r hr1).2.1] at hs
    exact ⟨[.fz (.int coil), .fz (.tup (iD ps)), .fz (.tup (rD_ rs)), .fz (.lst (iD rs.flatten)), .fz (.tup (iD r)), .no], by simp [clr], rfl, by simp [hs, hg], rfl, rfl⟩
  have L5 : (eLcD [4] (gN 4) (iSeq (eV 2)) tYesD (eBin gLe (eApp gSumT (aCons (eLcD [5] (gN 5) (iSeq (eV 4)) tYesD (eBin gIx2 (eV 1) (eV 5))) aNil)) (eV 0))) [.fz (.int coil), .fz (.tup (iD ps)), .fz (.tup (rD_ rs)), .fz (.lst (iD rs.flatten)), .no, .no] = .ok (.d (.lst ((rD_ rs).map fun _ => .bl true))) [.fz (.int coil), .fz (.tup (iD ps)), .fz (.tup (rD_ rs)), .fz (.lst (iD rs.flatten)), .no, .no] := by
    refine eLcD_map (ds := rD_ rs) (fun _ => .bl true) (by simp) rfl (by rw [List.length_map]; unfold lim; omega) (fun d hd => ?_) rfl
    obtain ⟨r, hr1, rfl⟩ := mem_rD hd
    have hi : (eLcD [5] (gN 5) (iSeq (eV 4)) tYesD (eBin gIx2 (eV 1) (eV 5))) [.fz (.int coil), .fz (.tup (iD ps)), .fz (.tup (rD_ rs)), .fz (.lst (iD rs.flatten)), .fz (.tup (iD r)), .no] = .ok (.d (.lst ((iD r).map fun d => match d with | .int z => D.int (pP ps z) | d => d))) [.fz (.int coil), .fz (.tup (iD ps)), .fz (.tup (rD_ rs)), .fz (.lst (iD rs.flatten)), .fz (.tup (iD r)), .no] := by
      refine eLcD_map (ds := iD r) _ (by simp) rfl (by rw [List.length_map]; have := (l3 r hr1).1; unfold lim; omega) (fun d hd => ?_) rfl
      obtain ⟨z, hz, rfl⟩ := mem_iD hd
      have := at_pP ((l3 r hr1).2 z hz)
      exact ⟨[.fz (.int coil), .fz (.tup (iD ps)), .fz (.tup (rD_ rs)), .fz (.lst (iD rs.flatten)), .fz (.tup (iD r)), .fz (.int z)], by simp [clr], rfl, by simp [this], rfl, rfl⟩
    have hs := sum_at (l3 r hr1).2
    have hle := (C.rows r hr1).2.2
    refine ⟨[.fz (.int coil), .fz (.tup (iD ps)), .fz (.tup (rD_ rs)), .fz (.lst (iD rs.flatten)), .fz (.tup (iD r)), .no], by simp [clr], rfl, ?_, rfl, rfl⟩
    generalize ((iD r).map fun d => match d with | .int z => D.int (pP ps z) | d => d) = ys at *
    generalize iD rs.flatten = FL at *
    simp [hi, hs, hle]
  have hA := all_true (rD_ rs)
  have hA2 := all_true (iD rs.flatten)
  have hso := gSorted_lI (ns := rs.flatten) (by unfold lim; omega)
  rw [srt_eq C.perm (range_sorted _)] at hso
  have hrg := gLRg h.n
  have hne := gNe_self (dok_lI ((List.range ps.length).map fun i : Nat => (i : Int)))
  have hsr := gSorted_tR (rs := rs) (by unfold lim; omega) fun r hr => (C.rows r hr).1
  rw [C.so] at hsr
  have hne2 := gNe_self (dok_lR rs)
  generalize ((rD_ rs).map fun _ => D.bl true) = ts at *
  generalize ((iD rs.flatten).map fun _ => D.bl true) = us at *
  have ht := itt (rD_ rs)
  generalize iD rs.flatten = FL at *
  generalize iD ((List.range ps.length).map fun i : Nat => (i : Int)) = RG at *
  have hlen : (iD ps).length = ps.length := by simp
  unfold m_is_cutting runP b_is_cutting
  generalize (eLcD [4] (gN 4) (iSeq (eV 2)) tYesD (eAnd (eUn (gIsi "tuple") (eV 4)) (eBin gNe (eV 4) (eTup aNil)))) = f1 at *
  generalize (eLc2D [4, 5] [5] (gN 4) (iSeq (eV 2)) tYesD (iSeq (eV 4)) (gN 5) tYesD (eV 5)) = f2 at *
  generalize (eLcD [5] (gN 5) (iSeq (eV 3)) tYesD (eFz (rCall 1 m_is_whole (aCons (eV 5) aNil)))) = f3 at *
  generalize (eLcD [4] (gN 4) (iSeq (eV 2)) tYesD (eBin gEq (eApp gList (aCons (eV 4) aNil)) (eApp gSorted (aCons (eV 4) aNil)))) = f4 at *
  generalize (eLcD [4] (gN 4) (iSeq (eV 2)) tYesD (eBin gLe (eApp gSumT (aCons (eLcD [5] (gN 5) (iSeq (eV 4)) tYesD (eBin gIx2 (eV 1) (eV 5))) aNil)) (eV 0))) = f5 at *
  simp [hr, ht, L1, hA, L2, L3, hA2, hso, hrg, hne, hsr, hne2, L4, L5]
theorem p_waste {coil k : Int} {ps : List Int} {rs : List (List Int)} (h : Ok coil ps) (C : Cutting coil ps k rs) : m_waste [.int coil, .tup (iD ps), .tup (rD_ rs)] = .ok (.d (.int (k * coil - ps.sum))) := by
  have := p_isCut h C
  obtain ⟨l1, l2, l3⟩ := C.small h.n
  have hc := h.c
  have hb : (coil : Int) < 2 ^ 4000 := Int.lt_of_lt_of_le (show coil < 2 ^ 7 by omega) (Int.le_of_lt (pow_big (by decide)))
  have hb2 : ((rs.length : Nat) : Int) < 2 ^ 4000 := Int.lt_of_lt_of_le (show ((rs.length : Nat) : Int) < 2 ^ 7 by omega) (Int.le_of_lt (pow_big (by decide)))
  have hm := g_mul (a := (rs.length : Int)) (b := coil) (by omega) hb2 (by omega) hb
  have hs : gSumT [.tup (iD ps)] = some (.int ps.sum) := by simp only [gSumT, allInt_iD, Option.map_some]
  rw [← C.len]
  simp [m_waste, runP, b_waste, this, hm, hs]
end PD

set_option linter.all false
set_option maxRecDepth 100000
set_option maxHeartbeats 1000000
namespace PD
open PySem PySem.Spec PyProof.Rows L2 K13
def kK (c : List Int) : List Key := c.map Sum.inl
theorem kK_inj {a b : List Int} (h : kK a = kK b) : a = b := by
  unfold kK at h
  exact List.map_inj_right (fun x y q => Sum.inl.inj q) |>.mp h
def addC (cs : List (List Int)) (c : List Int) : List (List Int) := if c ∈ cs then cs else cs ++ [c]
theorem hasK_kK (cs : List (List Int)) (c : List Int) : hasK (cs.map kK) (kK c) = decide (c ∈ cs) := by
  unfold hasK
  rw [List.any_map]
  by_cases h : c ∈ cs
  · rw [decide_eq_true h, List.any_eq_true]
    exact ⟨c, h, by simp⟩
  · rw [decide_eq_false h, List.any_eq_false]
    intro x hx q
    have := of_decide_eq_true q
    exact h (kK_inj this ▸ hx)
theorem putKs_kK (cs : List (List Int)) (c : List Int) : putKs (cs.map kK) (kK c) = (addC cs c).map kK := by
  unfold putKs addC
  rw [hasK_kK]
  by_cases h : c ∈ cs
  · simp [h]
  · simp [h]
theorem mem_addC {cs : List (List Int)} {c x : List Int} : x ∈ addC cs c ↔ x ∈ cs ∨ x = c := by
  unfold addC
  split
  · constructor
    · exact .inl
    · rintro (h | rfl)
      · exact h
      · assumption
  · simp
theorem mem_fold : ∀ {L : List (List Int)} {acc : List (List Int)} {x : List Int}, x ∈ L.foldl addC acc ↔ x ∈ acc ∨ x ∈ L
  | [], acc, x => by simp
  | c :: L, acc, x => by rw [List.foldl_cons, mem_fold, mem_addC, List.mem_cons, or_assoc]
/-! ### how many -/
def gW : Nat → Nat → Nat
  | 0, _ => 1
  | r + 1, j => j * gW r j + gW r (j + 1)
def wt (r : Nat) (cs : List (List Int)) : Nat := (cs.map fun c => gW r c.length).sum
theorem gW_pos : ∀ r j, 1 ≤ gW r j
  | 0, _ => Nat.le_refl _
  | r + 1, j => by have := gW_pos r (j + 1); unfold gW; omega
theorem wt_cons (r : Nat) (c : List Int) (cs : List (List Int)) : wt r (c :: cs) = gW r c.length + wt r cs := by simp [wt]
theorem wt_app (r : Nat) (a b : List (List Int)) : wt r (a ++ b) = wt r a + wt r b := by simp [wt]
theorem wt_len (r : Nat) : ∀ cs : List (List Int), cs.length ≤ wt r cs
  | [] => Nat.le_refl _
  | c :: cs => by have := wt_len r cs; have := gW_pos r c.length; rw [wt_cons, List.length_cons]; omega
theorem wt_add (r : Nat) (cs : List (List Int)) (c : List Int) : wt r (addC cs c) ≤ wt r cs + gW r c.length := by
  unfold addC
  split
  · omega
  · rw [wt_app, wt_cons]; simp [wt]
theorem wt_fold (r : Nat) : ∀ (L acc : List (List Int)), wt r (L.foldl addC acc) ≤ wt r acc + wt r L
  | [], acc => by simp [wt]
  | c :: L, acc => by have := wt_fold r L (addC acc c); have := wt_add r acc c; rw [List.foldl_cons, wt_cons]; omega
theorem len_add (cs : List (List Int)) (c : List Int) : (addC cs c).length ≤ cs.length + 1 := by unfold addC; split <;> simp
theorem len_fold : ∀ (L acc : List (List Int)), (L.foldl addC acc).length ≤ acc.length + L.length
  | [], acc => by simp
  | c :: L, acc => by have := len_fold L (addC acc c); have := len_add acc c; rw [List.foldl_cons, List.length_cons]; omega
noncomputable def opt (coil p : Int) (cuts : List Int) (k : Nat) : List (List Int) := if psf cuts k + p ≤ coil then [srt ((cuts.take k ++ [psf cuts k + p]) ++ cuts.drop (k + 1))] else []
noncomputable def opts (coil p : Int) (cuts : List Int) : List (List Int) := (List.range cuts.length).flatMap (opt coil p cuts) ++ [srt (cuts ++ [p])]
theorem take_drop_len {cuts : List Int} {k : Nat} {x : Int} (h : k < cuts.length) : ((cuts.take k ++ [x]) ++ cuts.drop (k + 1)).length = cuts.length := by simp; omega
theorem wt_opt (r : Nat) (coil p : Int) (cuts : List Int) : ∀ (l : List Nat), (∀ k ∈ l, k < cuts.length) → wt r (l.flatMap (opt coil p cuts)) ≤ l.length * gW r cuts.length
  | [], _ => by simp [wt]
  | k :: l, h => by
    have ih := wt_opt r coil p cuts l fun x hx => h x (List.mem_cons_of_mem _ hx)
    rw [List.flatMap_cons, wt_app, List.length_cons, Nat.succ_mul]
    have : wt r (opt coil p cuts k) ≤ gW r cuts.length := by
      unfold opt
      split
      · rw [wt_cons, (srt_perm _).length_eq, take_drop_len (h k List.mem_cons_self)]; simp [wt]
      · simp [wt]
    omega
theorem wt_opts (r : Nat) (coil p : Int) (cuts : List Int) : wt r (opts coil p cuts) ≤ gW (r + 1) cuts.length := by
  unfold opts
  have := wt_opt r coil p cuts (List.range cuts.length) fun k hk => List.mem_range.mp hk
  rw [List.length_range] at this
  rw [wt_app, wt_cons, (srt_perm _).length_eq, List.length_append, List.length_singleton]
  simp only [wt, List.map_nil, List.sum_nil, gW]
  unfold wt at this
  omega
theorem wt_all (r : Nat) (coil p : Int) : ∀ (cs : List (List Int)), wt r (cs.flatMap (opts coil p)) ≤ wt (r + 1) cs
  | [] => by simp [wt]
  | c :: cs => by have := wt_all r coil p cs; have := wt_opts r coil p c; rw [List.flatMap_cons, wt_app, wt_cons]; omega
/-! ### what the keys mean -/
structure Keys (coil : Int) (l : List Int) (cs : List (List Int)) : Prop where
  sound : ∀ c ∈ cs, Sums coil l c
  all : ∀ c, Sums coil l c → ∃ c' ∈ cs, c.Perm c'
theorem split_at {cuts : List Int} {k : Nat} (h : k < cuts.length) : cuts = cuts.take k ++ psf cuts k :: cuts.drop (k + 1) := by
  have := psf_at h
  rw [List.getElem?_eq_getElem h] at this
  have e := Option.some.inj this
  rw [← e, ← List.drop_eq_getElem_cons h, List.take_append_drop]
theorem keys_step {coil p : Int} {l : List Int} {cs : List (List Int)} (hp : 1 ≤ p ∧ p ≤ coil) (hl : ∀ q ∈ l, 1 ≤ q) (K : Keys coil l cs) : Keys coil (p :: l) ((cs.flatMap (opts coil p)).foldl addC []) := by
  constructor
  · intro c hc
    rcases mem_fold.mp hc with hc | hc
    · cases hc
    · obtain ⟨cuts, h1, h2⟩ := List.mem_flatMap.mp hc
      have S := K.sound cuts h1
      rcases List.mem_append.mp h2 with h2 | h2
      · obtain ⟨k, hk, h3⟩ := List.mem_flatMap.mp h2
        have hk := List.mem_range.mp hk
        unfold opt at h3
        split at h3
        · rename_i hf
          rw [List.mem_singleton.mp h3]
          rw [split_at hk] at S
          refine (S.add hf).perm (.refl _) ?_
          refine List.Perm.trans ?_ (srt_perm _).symm
          simp
        · cases h3
      · rw [List.mem_singleton.mp h2]
        exact (S.new hp.2).perm (.refl _) (srt_perm _).symm
  · intro c hc
    rcases hc.out hl hp.1 with ⟨A, x, B, S, hf, pe⟩ | ⟨A, S, pe⟩
    · obtain ⟨c', h1, h2⟩ := K.all _ S
      have hx : x ∈ c' := h2.subset (by simp)
      obtain ⟨k, hk, ek⟩ := List.getElem_of_mem hx
      have ep : psf c' k = x := by
        have := psf_at hk
        rw [List.getElem?_eq_getElem hk, ek] at this
        exact (Option.some.inj this).symm
      refine ⟨srt ((c'.take k ++ [psf c' k + p]) ++ c'.drop (k + 1)), mem_fold.mpr (.inr (List.mem_flatMap.mpr ⟨c', h1, List.mem_append_left _ (List.mem_flatMap.mpr ⟨k, List.mem_range.mpr hk, ?_⟩)⟩)), ?_⟩
      · unfold opt; rw [if_pos (by rw [ep]; exact hf)]; simp
      · refine pe.trans (List.Perm.trans ?_ (srt_perm _).symm)
        have h3 : (A ++ x :: B).Perm (c'.take k ++ x :: c'.drop (k + 1)) := by
          have := h2
          rw [split_at hk, ep] at this
          exact this
        have h4 : (A ++ B).Perm (c'.take k ++ c'.drop (k + 1)) := by
          have a := (List.perm_middle (a := x) (l₁ := A) (l₂ := B)).symm.trans (h3.trans List.perm_middle)
          exact a.cons_inv
        rw [ep]
        have a : (A ++ (x + p) :: B).Perm ((x + p) :: (A ++ B)) := List.perm_middle
        refine a.trans ((h4.cons _).trans ?_)
        rw [List.append_assoc]
        exact List.perm_middle.symm
    · obtain ⟨c', h1, h2⟩ := K.all _ S
      refine ⟨srt (c' ++ [p]), mem_fold.mpr (.inr (List.mem_flatMap.mpr ⟨c', h1, List.mem_append_right _ (by simp)⟩)), ?_⟩
      exact pe.trans ((h2.append_right _).trans (srt_perm _).symm)
theorem keys_nil {coil : Int} : Keys coil [] [[]] := ⟨fun c hc => by rw [List.mem_singleton.mp hc]; exact Sums.nil, fun c hc => ⟨[], by simp, by rw [hc.of_nil]⟩⟩
/-- the least length of a key -/
theorem keys_least {coil : Int} {l : List Int} {cs : List (List Int)} (K : Keys coil l cs) {m : Int} (hm : (cs.map fun c => (c.length : Int)).min? = some m) : Least coil l m := by
  obtain ⟨h1, h2⟩ := List.min?_eq_some_iff.mp hm
  obtain ⟨c, hc, rfl⟩ := List.mem_map.mp h1
  constructor
  · obtain ⟨bins, hb, e⟩ := K.sound c hc
    exact ⟨bins, hb, by rw [← e.length_eq, List.length_map]⟩
  · intro bins hb
    obtain ⟨c', h3, h4⟩ := K.all (bins.map List.sum) ⟨bins, hb, .refl _⟩
    have := h2 (c'.length : Int) (List.mem_map.mpr ⟨c', h3, rfl⟩)
    have h5 := h4.length_eq
    rw [List.length_map] at h5
    omega
theorem Least.perm {coil : Int} {l l' : List Int} {k : Int} (h : Least coil l k) (p : l.Perm l') : Least coil l' k := by
  obtain ⟨⟨b, hb, e⟩, h2⟩ := h
  exact ⟨⟨b, ⟨hb.perm.trans p, hb.ne, hb.le⟩, e⟩, fun b hb => h2 b ⟨hb.perm.trans p.symm, hb.ne, hb.le⟩⟩
end PD

set_option linter.all false
set_option maxRecDepth 100000
set_option maxHeartbeats 1000000
namespace PD
open PySem PySem.Spec PyProof.Rows L2 K13
theorem cut_take {α : Type} {xs : List α} {k : Nat} (h : k ≤ xs.length) : cutD xs none (some (k : Int)) = xs.take k := by
  simp [cutD, HT.sIx_nat, HT.sIx_none, Nat.min_eq_left h]
theorem cut_drop {α : Type} {xs : List α} {k : Nat} (h : k ≤ xs.length) : cutD xs (some (k : Int)) none = xs.drop k := by
  simp [cutD, HT.sIx_nat, HT.sIx_none, Nat.min_eq_left h]
  exact List.take_of_length_le (by simp)
theorem keysD_i : ∀ ns : List Int, keysD (iD ns) = some (kK ns)
  | [] => rfl
  | n :: ns => by simp [keysD, keyD, keysD_i ns, kK]
@[simp] theorem g_addT {xs ys : List D} : gAdd [.tup xs, .tup ys] = if xs.length + ys.length ≤ lim then some (.tup (xs ++ ys)) else none := rfl
@[simp] theorem x_kTup {f : S → R W} {s : S} : kTup f s = (f s).bind fun w s1 => match w with
  | .d (.lst ds) => ofO s1 (keysD ds)
  | _ => .st := rfl
def lS (coil : Int) (ps : List Int) (s2 : Sl) (p : Int) (acc : List (List Int)) (vs : List D) (cuts : List Int) (x6 : Sl) : S := [.fz (.int coil), .fz (.tup (iD ps)), s2, .fz (.int p), .ow (.dit (acc.map kK) vs), .fz (.tup (iD cuts)), x6]
noncomputable def kE : S → R (List Key) := kTup (eApp gSorted (aCons (eBin gAdd (eBin gAdd (eSl (eV 5) none (some (eV 6))) (eTup (aCons (eBin gAdd (eBin gIx2 (eV 5) (eV 6)) (eV 3)) aNil))) (eSl (eV 5) (some (eBin gAdd (eV 6) (eC (.int 1)))) none)) aNil))
noncomputable def kE2 : S → R (List Key) := kTup (eApp gSorted (aCons (eBin gAdd (eV 5) (eTup (aCons (eV 3) aNil))) aNil))
noncomputable def kB : S → SR := sIf (cVal (eBin gLe (eBin gAdd (eBin gIx2 (eV 5) (eV 6)) (eV 3)) (eV 0))) (sAsg (gSetT 4 kE) (eC (.bl true))) sNil
theorem kE_run {coil p : Int} {ps cuts : List Int} {s2 : Sl} {acc : List (List Int)} {vs : List D} {k : Nat} (hk : k < cuts.length) (hl : cuts.length ≤ 100) :
    kE (lS coil ps s2 p acc vs cuts (.fz (.int k))) = .ok (kK (srt ((cuts.take k ++ [psf cuts k + p]) ++ cuts.drop (k + 1)))) (lS coil ps s2 p acc vs cuts (.fz (.int k))) := by
  have h1 := cut_take (xs := iD cuts) (k := k) (by rw [List.length_map]; omega)
  have h2 := cut_drop (xs := iD cuts) (k := k + 1) (by rw [List.length_map]; omega)
  have h3 := psf_atI hk
  have e1 : (iD cuts).take k ++ [D.int (psf cuts k + p)] ++ (iD cuts).drop (k + 1) = iD ((cuts.take k ++ [psf cuts k + p]) ++ cuts.drop (k + 1)) := by simp [iD, List.map_take, List.map_drop]
  have h4 := gSorted_tI (ns := (cuts.take k ++ [psf cuts k + p]) ++ cuts.drop (k + 1)) (by rw [take_drop_len hk]; unfold lim; omega)
  rw [← e1] at h4
  have h5 := keysD_i (srt ((cuts.take k ++ [psf cuts k + p]) ++ cuts.drop (k + 1)))
  have hlen : (iD cuts).length = cuts.length := by simp
  push_cast at h2
  generalize iD (srt ((cuts.take k ++ [psf cuts k + p]) ++ cuts.drop (k + 1))) = out at *
  generalize kK (srt ((cuts.take k ++ [psf cuts k + p]) ++ cuts.drop (k + 1))) = ok at *
  simp only [lS]
  generalize iD cuts = cu at *
  have n1 : (cu.take k).length + 1 ≤ lim := by rw [List.length_take]; unfold lim; omega
  have n2 : (cu.take k ++ [D.int (psf cuts k + p)]).length + (cu.drop (k + 1)).length ≤ lim := by rw [List.length_append, List.length_take, List.length_drop]; unfold lim; simp; omega
  have n1' : min k cu.length + 1 ≤ lim := by rw [List.length_take] at n1; exact n1
  have n2' : min k cu.length + 1 + (cu.length - (k + 1)) ≤ lim := by simpa [List.length_append, List.length_take, List.length_drop] using n2
  simp only [List.append_assoc, List.cons_append, List.nil_append] at h4
  simp [kE, lS, h1, h2, h3, n1', n2', h4, h5]
theorem kE2_run {coil p : Int} {ps cuts : List Int} {s2 x6 : Sl} {acc : List (List Int)} {vs : List D} (hl : cuts.length ≤ 100) :
    kE2 (lS coil ps s2 p acc vs cuts x6) = .ok (kK (srt (cuts ++ [p]))) (lS coil ps s2 p acc vs cuts x6) := by
  have e1 : iD cuts ++ [D.int p] = iD (cuts ++ [p]) := by simp [iD]
  have h4 := gSorted_tI (ns := cuts ++ [p]) (by rw [List.length_append]; unfold lim; simp; omega)
  rw [← e1] at h4
  have h5 := keysD_i (srt (cuts ++ [p]))
  have hlen : (iD cuts).length = cuts.length := by simp
  generalize iD (srt (cuts ++ [p])) = out at *
  generalize kK (srt (cuts ++ [p])) = ok at *
  simp only [lS]
  generalize iD cuts = cu at *
  have n1 : cu.length + 1 ≤ lim := by unfold lim; omega
  simp [kE2, lS, n1, h4, h5]
theorem set_run {coil p : Int} {ps cuts : List Int} {s2 x6 : Sl} {acc : List (List Int)} {vs : List D} {c : List Int} {f : S → R (List Key)} (hl : (acc.map kK).length = vs.length) (hv : acc.length < 1000000) (hf : f (lS coil ps s2 p acc vs cuts x6) = .ok (kK c) (lS coil ps s2 p acc vs cuts x6)) :
    ∃ vs', sAsg (gSetT 4 f) (eC (.bl true)) (lS coil ps s2 p acc vs cuts x6) = .nx (lS coil ps s2 p (addC acc c) vs' cuts x6) ∧ ((addC acc c).map kK).length = vs'.length := by
  refine ⟨putVs (acc.map kK) vs (kK c) (.bl true), ?_, ?_⟩
  · have hl2 : vs.length < lim := by rw [← hl, List.length_map]; exact hv
    have hp := putKs_kK acc c
    have ho : isOwn (lS coil ps s2 p acc vs cuts x6) 4 = true := rfl
    have h4 : (lS coil ps s2 p acc vs cuts x6)[4]? = some (.ow (.dit (acc.map kK) vs)) := rfl
    rw [x_asg, x_eC, sBind_ok]
    simp only [x_fzW]
    rw [gSetT, if_pos ho, hf]
    simp only [h4]
    rw [if_pos hl2, hp]
    rfl
  · rw [← putKs_kK]; exact put_length hl
noncomputable def cB : S → SR := sSeq (sFor (gN 6) (iOf gRng1 (aCons (eApp gLen (aCons (eV 5) aNil)) aNil)) kB) (sAsg (gSetT 4 kE2) (eC (.bl true)))
theorem fold_flat (coil p : Int) (cuts : List Int) (i : Nat) (acc : List (List Int)) : (((List.range (i + 1)).flatMap (opt coil p cuts)).foldl addC acc) = (opt coil p cuts i).foldl addC (((List.range i).flatMap (opt coil p cuts)).foldl addC acc) := by
  rw [List.range_succ, List.flatMap_append, List.foldl_append]; simp
theorem opt_len (coil p : Int) (cuts : List Int) (l : List Nat) : (l.flatMap (opt coil p cuts)).length ≤ l.length := by
  induction l with
  | nil => simp
  | cons k l ih =>
    rw [List.flatMap_cons, List.length_append, List.length_cons]
    have : (opt coil p cuts k).length ≤ 1 := by unfold opt; split <;> simp
    omega
theorem cB_run {coil p : Int} {ps cuts : List Int} {s2 x6 : Sl} {acc : List (List Int)} {vs : List D} (hl : (acc.map kK).length = vs.length) (hc : cuts.length ≤ 100) (hv : acc.length + cuts.length + 1 < 1000000) :
    ∃ vs' y6, cB (lS coil ps s2 p acc vs cuts x6) = .nx (lS coil ps s2 p ((opts coil p cuts).foldl addC acc) vs' cuts y6) ∧ (((opts coil p cuts).foldl addC acc).map kK).length = vs'.length := by
  obtain ⟨s', e, h'⟩ := forD_inv (t := gN 6) (f := kB) (ds := rngD 0 cuts.length) (k := 0) (s := lS coil ps s2 p acc vs cuts x6)
    (fun i s => ∃ vs x6, s = lS coil ps s2 p (((List.range i).flatMap (opt coil p cuts)).foldl addC acc) vs cuts x6 ∧ ((((List.range i).flatMap (opt coil p cuts)).foldl addC acc).map kK).length = vs.length)
    ⟨vs, x6, rfl, hl⟩ fun i d s hd ⟨vs, x6, e, hl⟩ => by
      subst e
      rw [Nat.zero_add] at hl ⊢
      rw [rng_get] at hd
      by_cases hi : i < ((cuts.length : Int) - 0).toNat
      · rw [if_pos hi, Int.zero_add] at hd
        cases hd
        have hi' : i < cuts.length := by omega
        have hat := psf_atI hi'
        have hlen : (((List.range i).flatMap (opt coil p cuts)).foldl addC acc).length < 1000000 := by
          have a := len_fold ((List.range i).flatMap (opt coil p cuts)) acc
          have b := opt_len coil p cuts (List.range i)
          rw [List.length_range] at b
          omega
        rw [fold_flat]
        generalize (((List.range i).flatMap (opt coil p cuts)).foldl addC acc) = acc' at *
        refine ⟨lS coil ps s2 p acc' vs cuts (.fz (.int i)), by simp [lS], ?_⟩
        by_cases hf : psf cuts i + p ≤ coil
        · obtain ⟨vs', e1, e2⟩ := set_run (s2 := s2) (x6 := .fz (.int i)) (c := srt ((cuts.take i ++ [psf cuts i + p]) ++ cuts.drop (i + 1))) hl hlen (kE_run (coil := coil) (ps := ps) (p := p) hi' hc)
          refine ⟨_, ?_, vs', .fz (.int i), rfl, ?_⟩
          · rw [opt, if_pos hf, List.foldl_cons, List.foldl_nil]
            have ht : cVal (eBin gLe (eBin gAdd (eBin gIx2 (eV 5) (eV 6)) (eV 3)) (eV 0)) (lS coil ps s2 p acc' vs cuts (.fz (.int i))) = .ok true (lS coil ps s2 p acc' vs cuts (.fz (.int i))) := by simp [lS, hat, hf]
            rw [kB, x_if, ht, sBind_ok, if_pos rfl]
            exact e1
          · rw [opt, if_pos hf]; exact e2
        · refine ⟨_, ?_, vs, .fz (.int i), rfl, ?_⟩
          · rw [opt, if_neg hf, List.foldl_nil]
            have ht : cVal (eBin gLe (eBin gAdd (eBin gIx2 (eV 5) (eV 6)) (eV 3)) (eV 0)) (lS coil ps s2 p acc' vs cuts (.fz (.int i))) = .ok false (lS coil ps s2 p acc' vs cuts (.fz (.int i))) := by simp [lS, hat, hf]
            rw [kB, x_if, ht, sBind_ok, if_neg (by decide)]
            rfl
          · rw [opt, if_neg hf]; exact hl
      · rw [if_neg hi] at hd; cases hd
  obtain ⟨vs1, y6, rfl, hl1⟩ := h'
  rw [rng_len, Nat.zero_add, show ((cuts.length : Int) - 0).toNat = cuts.length by omega] at hl1 e
  have hlen1 : (((List.range cuts.length).flatMap (opt coil p cuts)).foldl addC acc).length < 1000000 := by
    have a := len_fold ((List.range cuts.length).flatMap (opt coil p cuts)) acc
    have b := opt_len coil p cuts (List.range cuts.length)
    rw [List.length_range] at b
    omega
  obtain ⟨vs2, e2, hl2⟩ := set_run (s2 := s2) (x6 := y6) (c := srt (cuts ++ [p])) hl1 hlen1 (kE2_run (coil := coil) (ps := ps) (p := p) hc)
  have eo : (opts coil p cuts).foldl addC acc = addC (((List.range cuts.length).flatMap (opt coil p cuts)).foldl addC acc) (srt (cuts ++ [p])) := by
    unfold opts; rw [List.foldl_append]; rfl
  refine ⟨vs2, y6, ?_, by rw [eo]; exact hl2⟩
  have hi : iOf gRng1 (aCons (eApp gLen (aCons (eV 5) aNil)) aNil) (lS coil ps s2 p acc vs cuts x6) = .ok (rngD 0 cuts.length) (lS coil ps s2 p acc vs cuts x6) := by
    refine iOf_ok (ws := [.d (.int cuts.length)]) ?_ (g_rng1 (by omega) (by omega))
    simp [lS]
  rw [cB, x_seq, x_for, hi, sBind_ok, e]
  simp only []
  rw [e2, eo]
end PD

set_option linter.all false
set_option maxRecDepth 100000
set_option maxHeartbeats 1000000
namespace PD
open PySem PySem.Spec PyProof.Rows L2 K13
def nO (x : Sl) : Prop := ∀ o, x ≠ .ow o
theorem keyT_kK (c : List Int) : keyT (kK c) = .tup (iD c) := by simp [keyT, kK, kD, iD]
theorem wt_take (r : Nat) (cs : List (List Int)) (i : Nat) : wt r (cs.take i) ≤ wt r cs := by
  have := wt_app r (cs.take i) (cs.drop i)
  rw [List.take_append_drop] at this
  omega
theorem sums_len {coil : Int} {l c : List Int} (h : Sums coil l c) : c.length ≤ l.length := by
  obtain ⟨bins, hb, e⟩ := h
  rw [← e.length_eq, List.length_map, ← hb.perm.length_eq]
  have h2 : ∀ rs : List (List Int), (∀ r ∈ rs, r ≠ []) → rs.length ≤ rs.flatten.length := by
    intro rs
    induction rs with
    | nil => intro _; simp
    | cons r rs ih =>
      intro h
      have := ih fun x hx => h x (List.mem_cons_of_mem _ hx)
      have h0 := h r List.mem_cons_self
      rw [List.flatten_cons, List.length_append, List.length_cons]
      have : 0 < r.length := List.length_pos_iff.mpr h0
      omega
  exact h2 bins hb.ne
noncomputable def mB : S → SR := sLock 2 fun kl2 => sFor (gN 5) (iKl kl2) cB
theorem mB_run {coil p : Int} {ps : List Int} {cs : List (List Int)} {vs : List D} {x5 x6 : Sl} {r : Nat} (hc : ∀ c ∈ cs, c.length ≤ 100) (hw : wt (r + 1) cs ≤ 200000) (h5 : nO x5) :
    ∃ vs' y5 y6, mB [.fz (.int coil), .fz (.tup (iD ps)), .ow (.dit (cs.map kK) vs), .fz (.int p), .ow (.dit [] []), x5, x6] =
      .nx [.fz (.int coil), .fz (.tup (iD ps)), .ow (.dit (cs.map kK) vs), .fz (.int p), .ow (.dit (((cs.flatMap (opts coil p)).foldl addC []).map kK) vs'), y5, y6] ∧ (((cs.flatMap (opts coil p)).foldl addC []).map kK).length = vs'.length ∧ nO y5 := by
  obtain ⟨s', e, h'⟩ := forD_inv (t := gN 5) (f := cB) (ds := (cs.map kK).map keyT) (k := 0) (s := [.fz (.int coil), .fz (.tup (iD ps)), .no, .fz (.int p), .ow (.dit [] []), x5, x6])
    (fun i s => ∃ vs' x5 x6, s = [.fz (.int coil), .fz (.tup (iD ps)), .no, .fz (.int p), .ow (.dit ((((cs.take i).flatMap (opts coil p)).foldl addC []).map kK) vs'), x5, x6] ∧ ((((cs.take i).flatMap (opts coil p)).foldl addC []).map kK).length = vs'.length ∧ nO x5)
    ⟨[], x5, x6, rfl, rfl, h5⟩ fun i d s hd ⟨vs', x5, x6, e, hl, _⟩ => by
      subst e
      rw [Nat.zero_add] at hl ⊢
      rw [List.map_map, List.getElem?_map] at hd
      cases hi : cs[i]? with
      | none => rw [hi] at hd; cases hd
      | some c =>
        rw [hi] at hd
        cases hd
        have hmem := List.mem_of_getElem? hi
        have et : cs.take (i + 1) = cs.take i ++ [c] := by
          obtain ⟨h1, h2⟩ := List.getElem?_eq_some_iff.mp hi
          rw [List.take_add_one, hi]; rfl
        have hlen : (((cs.take i).flatMap (opts coil p)).foldl addC []).length ≤ 200000 := by
          have a := len_fold ((cs.take i).flatMap (opts coil p)) []
          have b := wt_len r ((cs.take i).flatMap (opts coil p))
          have c := wt_all r coil p (cs.take i)
          have d := wt_take (r + 1) cs i
          simp only [List.length_nil] at a
          omega
        rw [et, List.flatMap_append, List.foldl_append]
        simp only [List.flatMap_cons, List.flatMap_nil, List.append_nil]
        generalize (((cs.take i).flatMap (opts coil p)).foldl addC []) = acc at *
        have hcl := hc c hmem
        obtain ⟨vs2, y6, e2, hl2⟩ := cB_run (coil := coil) (p := p) (ps := ps) (s2 := .no) (x6 := x6) hl hcl (by omega)
        refine ⟨lS coil ps .no p acc vs' c x6, ?_, _, e2, vs2, _, y6, rfl, hl2, fun o z => by cases z⟩
        show gN 5 (keyT (kK c)) _ = _
        rw [keyT_kK]
        simp [lS]
  obtain ⟨vs', y5, y6, rfl, hl, hy⟩ := h'
  have hz : ((cs.map kK).map keyT).length = cs.length := by simp
  rw [hz, Nat.zero_add, List.take_length] at hl e
  refine ⟨vs', y5, y6, ?_, hl, hy⟩
  rw [mB, sLock]
  simp only [List.getElem?_cons_succ, List.getElem?_cons_zero, List.set_cons_succ, List.set_cons_zero]
  rw [x_for, iKl, sBind_ok, e]
  rfl
noncomputable def eB : S → SR := sSeq (sOwn 4 rDicT) (sSeq mB (sOwn 2 (rMv 4)))
theorem eB_run {coil p : Int} {ps : List Int} {cs : List (List Int)} {vs : List D} {x4 x5 x6 : Sl} {r : Nat} (hc : ∀ c ∈ cs, c.length ≤ 100) (hw : wt (r + 1) cs ≤ 200000) (h5 : nO x5) :
    ∃ vs' y5 y6, eB [.fz (.int coil), .fz (.tup (iD ps)), .ow (.dit (cs.map kK) vs), .fz (.int p), x4, x5, x6] =
      .nx [.fz (.int coil), .fz (.tup (iD ps)), .ow (.dit (((cs.flatMap (opts coil p)).foldl addC []).map kK) vs'), .fz (.int p), .no, y5, y6] ∧ (((cs.flatMap (opts coil p)).foldl addC []).map kK).length = vs'.length ∧ nO y5 := by
  obtain ⟨vs', y5, y6, e, hl⟩ := mB_run (coil := coil) (p := p) (ps := ps) (vs := vs) (x5 := x5) (x6 := x6) hc hw h5
  refine ⟨vs', y5, y6, ?_, hl⟩
  have h1 : sOwn 4 rDicT [.fz (.int coil), .fz (.tup (iD ps)), .ow (.dit (cs.map kK) vs), .fz (.int p), x4, x5, x6] = .nx [.fz (.int coil), .fz (.tup (iD ps)), .ow (.dit (cs.map kK) vs), .fz (.int p), .ow (.dit [] []), x5, x6] := rfl
  rw [eB, x_seq, h1]
  simp only []
  rw [x_seq, e]
  rfl
theorem gMin_of {ns : List Int} {m : Int} (h : ns.min? = some m) : gMinL [.lst (iD ns)] = some (.int m) := by simp only [gMinL, allInt_iD, Option.bind_some, h, Option.map_some]
theorem p_coils {coil : Int} {ps : List Int} (h : Ok coil ps) : ∃ k, m__law_coils [.int coil, .tup (iD ps)] = .ok (.d (.int k)) ∧ Least coil ps k := by
  have hn := h.n
  have hB : ∀ n, n < 11 → gW n 0 ≤ 200000 := by decide +kernel
  have hps : (srt ps).reverse.Perm ps := (List.reverse_perm _).trans (srt_perm ps)
  generalize hns : (srt ps).reverse = ns at hps
  have hnl : ns.length = ps.length := hps.length_eq
  have hp : ∀ p ∈ ns, 1 ≤ p ∧ p ≤ coil := fun p q => h.p p (hps.subset q)
  obtain ⟨s', e, h'⟩ := forD_inv (t := gN 3) (f := eB) (ds := iD ns) (k := 0) (s := [.fz (.int coil), .fz (.tup (iD ps)), .ow (.dit ([[]].map kK) [.bl true]), .no, .no, .no, .no])
    (fun i s => ∃ cs vs x3 x4 x5 x6, s = [.fz (.int coil), .fz (.tup (iD ps)), .ow (.dit (cs.map kK) vs), x3, x4, x5, x6] ∧ Keys coil (ns.take i).reverse cs ∧ wt (ns.length - i) cs ≤ 200000 ∧ nO x5)
    ⟨[[]], [.bl true], .no, .no, .no, .no, rfl, keys_nil, by
      have := hB ns.length (by omega)
      simpa [wt] using this, fun o z => by cases z⟩ fun i d s hd ⟨cs, vs, x3, x4, x5, x6, e, K, hw, h5⟩ => by
      subst e
      rw [Nat.zero_add] at K hw ⊢
      rw [List.getElem?_map] at hd
      cases hi : ns[i]? with
      | none => rw [hi] at hd; cases hd
      | some p =>
        rw [hi] at hd
        cases hd
        obtain ⟨hlt, _⟩ := List.getElem?_eq_some_iff.mp hi
        have hpp := hp p (List.mem_of_getElem? hi)
        have er : ns.length - i = (ns.length - (i + 1)) + 1 := by omega
        rw [er] at hw
        have et : (ns.take (i + 1)).reverse = p :: (ns.take i).reverse := by rw [List.take_add_one, hi]; simp
        obtain ⟨vs', y5, y6, e2, hl2⟩ := eB_run (coil := coil) (p := p) (ps := ps) (vs := vs) (x4 := x4) (x5 := x5) (x6 := x6) (fun c hc => by
          have := sums_len (K.sound c hc)
          rw [List.length_reverse, List.length_take] at this
          omega) hw h5
        refine ⟨[.fz (.int coil), .fz (.tup (iD ps)), .ow (.dit (cs.map kK) vs), .fz (.int p), x4, x5, x6], by simp, _, e2, _, vs', .fz (.int p), .no, y5, y6, rfl, ?_, ?_, hl2.2⟩
        · rw [et]
          exact keys_step hpp (fun q hq => (hp q (List.mem_of_mem_take (List.mem_reverse.mp hq))).1) K
        · have a := wt_fold (ns.length - (i + 1)) (cs.flatMap (opts coil p)) []
          have b := wt_all (ns.length - (i + 1)) coil p cs
          simp only [wt, List.map_nil, List.sum_nil] at a b hw ⊢
          omega
  obtain ⟨cs, vs, x3, x4, x5, x6, rfl, K, hwF, h5⟩ := h'
  rw [List.length_map, Nat.zero_add, List.take_length] at K
  have hne : (cs.map fun c => (c.length : Int)) ≠ [] := fun q => by
    obtain ⟨bins, hb, _⟩ := run_pack0 (coil := coil) (l := ns.reverse) fun p hq => hp p (List.mem_reverse.mp hq)
    obtain ⟨c', h1, _⟩ := K.all (bins.map List.sum) ⟨bins, hb, .refl _⟩
    rw [List.map_eq_nil_iff.mp q] at h1
    cases h1
  obtain ⟨m, hm⟩ : ∃ m, (cs.map fun c => (c.length : Int)).min? = some m := by
    cases q : (cs.map fun c => (c.length : Int)).min? with
    | none => exact absurd (List.min?_eq_none_iff.mp q) hne
    | some m => exact ⟨m, rfl⟩
  refine ⟨m, ?_, PD.Least.perm (keys_least K hm) ((List.reverse_perm ns).trans hps)⟩
  have hso := gSorted_tI (ns := ps) (by unfold lim; omega)
  have hrev : gRev [.lst (iD (srt ps))] = some (.lst (iD ns)) := by
    rw [← hns]; simp [gRev, iD]
  have hmin := gMin_of hm
  have hcl : cs.length ≤ lim := by have := wt_len (ns.length - (0 + (iD ns).length)) cs; unfold lim; omega
  have hL : (eLock 2 fun kl2 => (eLcD [5] (gN 5) (iKl kl2) tYesD (eApp gLen (aCons (eV 5) aNil)))) [.fz (.int coil), .fz (.tup (iD ps)), .ow (.dit (cs.map kK) vs), x3, x4, x5, x6] =
      .ok (.d (.lst (iD (cs.map fun c => (c.length : Int))))) [.fz (.int coil), .fz (.tup (iD ps)), .ow (.dit (cs.map kK) vs), x3, x4, x5, x6] := by
    have hi : (eLcD [5] (gN 5) (iKl ((cs.map kK).map keyT)) tYesD (eApp gLen (aCons (eV 5) aNil))) [.fz (.int coil), .fz (.tup (iD ps)), .no, x3, x4, x5, x6] =
        .ok (.d (.lst (((cs.map kK).map keyT).map fun d => match d with | .tup xs => D.int xs.length | d => d))) [.fz (.int coil), .fz (.tup (iD ps)), .no, x3, x4, x5, x6] := by
      refine eLcD_map (ds := (cs.map kK).map keyT) _ rfl ?_ (by simpa using hcl) (fun d hd => ?_) rfl
      · cases x5 with
        | no => rfl
        | fz _ => rfl
        | ow o => exact absurd rfl (h5 o)
      · rw [List.map_map] at hd
        obtain ⟨c, _, rfl⟩ := List.mem_map.mp hd
        refine ⟨[.fz (.int coil), .fz (.tup (iD ps)), .no, x3, x4, .fz (.tup (iD c)), x6], ?_, rfl, ?_, rfl, rfl⟩
        · show gN 5 (keyT (kK c)) _ = _
          rw [keyT_kK]; simp [clr]
        · show _ = R.ok (W.d (match keyT (kK c) with | .tup xs => D.int xs.length | d => d)) _
          rw [keyT_kK]; simp
    have eq : (((cs.map kK).map keyT).map fun d => match d with | .tup xs => D.int xs.length | d => d) = iD (cs.map fun c => (c.length : Int)) := by
      rw [iD, List.map_map, List.map_map, List.map_map]
      refine List.map_congr_left fun c _ => ?_
      show (match keyT (kK c) with | .tup xs => D.int xs.length | d => d) = _
      rw [keyT_kK]; simp
    rw [eq] at hi
    rw [eLock]
    simp only [List.getElem?_cons_succ, List.getElem?_cons_zero, List.set_cons_succ, List.set_cons_zero]
    rw [hi]
    rfl
  have hS : sSeq (sFor (gN 3) (iSeq (eUn gRev (eApp gSorted (aCons (eV 1) aNil)))) eB) (sRet (eApp gMinL (aCons (eLock 2 fun kl2 => (eLcD [5] (gN 5) (iKl kl2) tYesD (eApp gLen (aCons (eV 5) aNil)))) aNil))) [.fz (.int coil), .fz (.tup (iD ps)), .ow (.dit ([[]].map kK) [.bl true]), .no, .no, .no, .no] = .rt (.d (.int m)) [.fz (.int coil), .fz (.tup (iD ps)), .ow (.dit (cs.map kK) vs), x3, x4, x5, x6] := by
    have hi : iSeq (eUn gRev (eApp gSorted (aCons (eV 1) aNil))) [.fz (.int coil), .fz (.tup (iD ps)), .ow (.dit ([[]].map kK) [.bl true]), .no, .no, .no, .no] = .ok (iD ns) [.fz (.int coil), .fz (.tup (iD ps)), .ow (.dit ([[]].map kK) [.bl true]), .no, .no, .no, .no] := by
      simp [hso, hrev]
    rw [x_seq, x_for, hi, sBind_ok, e]
    simp only []
    generalize (eLock 2 fun kl2 => (eLcD [5] (gN 5) (iKl kl2) tYesD (eApp gLen (aCons (eV 5) aNil)))) = ff at hL
    generalize iD (cs.map fun c => (c.length : Int)) = zz at *
    simp [hL, hmin]
  have eo : eB = sSeq (sOwn 4 rDicT) (sSeq (sLock 2 fun kl2 => sFor (gN 5) (iKl kl2) (sSeq (sFor (gN 6) (iOf gRng1 (aCons (eApp gLen (aCons (eV 5) aNil)) aNil)) (sIf (cVal (eBin gLe (eBin gAdd (eBin gIx2 (eV 5) (eV 6)) (eV 3)) (eV 0))) (sAsg (gSetT 4 (kTup (eApp gSorted (aCons (eBin gAdd (eBin gAdd (eSl (eV 5) none (some (eV 6))) (eTup (aCons (eBin gAdd (eBin gIx2 (eV 5) (eV 6)) (eV 3)) aNil))) (eSl (eV 5) (some (eBin gAdd (eV 6) (eC (.int 1)))) none)) aNil)))) (eC (.bl true))) sNil)) (sAsg (gSetT 4 (kTup (eApp gSorted (aCons (eBin gAdd (eV 5) (eTup (aCons (eV 3) aNil))) aNil)))) (eC (.bl true))))) (sOwn 2 (rMv 4))) := rfl
  unfold m__law_coils runPi runP b__law_coils
  rw [← eo]
  have h0 : sOwn 2 (rDispT kUnit (eC (.bl true))) [.fz (.int coil), .fz (.tup (iD ps)), .no, .no, .no, .no, .no] = .nx [.fz (.int coil), .fz (.tup (iD ps)), .ow (.dit ([[]].map kK) [.bl true]), .no, .no, .no, .no] := rfl
  show (match (match (sSeq _ (sSeq _ _)) [.fz (.int coil), .fz (.tup (iD ps)), .no, .no, .no, .no, .no] with
    | .nx _ => FR.ok (.d .non) | .rt r _ => .ok r | .er c ns ds _ => .er c ns ds | _ => .st) with
    | .ok (.d d) => if flatD d = true then FR.ok (.d d) else .st
    | _ => .st) = _
  rw [x_seq, h0]
  simp only []
  rw [hS]
  rfl
end PD

set_option linter.all false
set_option maxRecDepth 100000
set_option maxHeartbeats 1000000
namespace PD
open PySem PySem.Spec PyProof.Rows L2 K13
def rowD (ns : List Int) (a b c : Int) : List D := [.scr ns, .int a, .int b, .int c]
def RowI (a b : Int) : Prop := 0 ≤ a ∧ 0 ≤ b ∧ b < 2147483647
theorem sm {b : Int} (h : b < 2 ^ 62) : b < 2 ^ 4000 := Int.lt_trans h (pow_big (i := 62) (by decide))
theorem g_pow18 : gPow [.int 10, .int 18] = some (.int 1000000000000000000) := by
  unfold gPow
  simp only
  rw [if_pos (by decide)]
  rfl
section
variable {x0 x1 x2 x3 d : D}
theorem at40 : atI [x0, x1, x2, x3] 0 = some x0 := rfl
theorem at41 : atI [x0, x1, x2, x3] 1 = some x1 := rfl
theorem at42 : atI [x0, x1, x2, x3] 2 = some x2 := rfl
theorem at43 : atI [x0, x1, x2, x3] 3 = some x3 := rfl
theorem pu41 : (O.lst [x0, x1, x2, x3]).put (.int 1) d = some (.lst [x0, d, x2, x3]) := rfl
theorem pu42 : (O.lst [x0, x1, x2, x3]).put (.int 2) d = some (.lst [x0, x1, d, x3]) := rfl
theorem pu43 : (O.lst [x0, x1, x2, x3]).put (.int 3) d = some (.lst [x0, x1, x2, d]) := rfl
end
theorem p_taken {ns : List Int} {a b c many : Int} (hI : RowI a b) (hm : 0 < many) (hb : many < 2 ^ 62) : ∃ v a' b' c', m__law_taken (.lst (rowD ns a b c)) [.int many] = .ok (.d (.int v)) (.lst (rowD ns a' b' c')) ∧ RowI a' b' ∧ 0 ≤ v ∧ v < many := by
  obtain ⟨ha, hb0, hb1⟩ := hI
  have hmd : ∀ x, gMod [.int x, .int many] = some (.int (x % many)) := fun x => g_mod hm
  have hdv : ∀ x, gDiv [.int x, .int many] = some (.int (x / many)) := fun x => g_div hm (sm hb)
  by_cases hc : c > 0
  · refine ⟨c % many, a, b, c / many, ?_, ⟨ha, hb0, hb1⟩, Int.emod_nonneg _ (by omega), Int.emod_lt_of_pos _ hm⟩
    simp [m__law_taken, runB, b__law_taken, rowD, at43, hc, hmd, hdv, gSet, isOwn, pu43, ow0]
  · have hM : ∀ x, gMod [.int x, .int 2147483647] = some (.int (x % 2147483647)) := fun x => g_mod (by decide)
    have hmul := g_mul (a := b) (b := 48271) hb0 (sm (by omega)) (by decide) (sm (by decide))
    have r2 : ∀ x : Int, 0 ≤ x % 2147483647 ∧ x % 2147483647 < 2147483647 := fun x => ⟨Int.emod_nonneg _ (by decide), Int.emod_lt_of_pos _ (by decide)⟩
    have hc' : ¬ (0 < c) := hc
    by_cases hl : a + 1 > ns.length
    · have hl' : (ns.length : Int) < a + 1 := hl
      have h7 : ∀ x, gDiv [.int x, .int 7] = some (.int (x / 7)) := fun x => g_div (by decide) (sm (by decide))
      have hM1 := hM (b * 48271 + 11)
      obtain ⟨r3, r4⟩ := r2 (b * 48271 + 11)
      generalize (b * 48271 + 11) % 2147483647 = b2 at *
      refine ⟨(b2 / 7) % many, a + 1, b2, c, ?_, ⟨by omega, r3, r4⟩, Int.emod_nonneg _ (by omega), Int.emod_lt_of_pos _ hm⟩
      simp [m__law_taken, runB, b__law_taken, rowD, at40, at41, at42, at43, hc', hl', hmd, hmul, hM1, h7, gSet, isOwn, pu41, pu42, ow0]
    · have hl' : ¬ ((ns.length : Int) < a + 1) := hl
      have hat : ∃ cell, atI ns (a + 1 - 1) = some cell := by
        refine ⟨ns[a.toNat]'(by omega), ?_⟩
        have e : a + 1 - 1 = ((a.toNat : Nat) : Int) := by omega
        rw [e]
        exact atI_nat (by omega)
      obtain ⟨cell, hat⟩ := hat
      have hM1 := hM (b * 48271 + cell + 11)
      obtain ⟨r3, r4⟩ := r2 (b * 48271 + cell + 11)
      generalize (b * 48271 + cell + 11) % 2147483647 = b2 at *
      generalize ha1 : a + 1 = a1 at *
      by_cases hbig : cell ≥ 1000000000000000000
      · have hbig' : (1000000000000000000 : Int) ≤ cell := hbig
        refine ⟨cell % many, a1, b2, cell / many, ?_, ⟨by omega, r3, r4⟩, Int.emod_nonneg _ (by omega), Int.emod_lt_of_pos _ hm⟩
        simp [m__law_taken, runB, b__law_taken, rowD, at40, at41, at42, at43, hc', hl', ha1, hmd, hdv, hmul, hM1, hat, g_pow18, hbig', gSet, isOwn, pu41, pu42, pu43, ow0]
      · have hbig' : ¬ ((1000000000000000000 : Int) ≤ cell) := hbig
        have hP : ∀ x, gMod [.int x, .int 1000003] = some (.int (x % 1000003)) := fun x => g_mod (by decide)
        have h11 : ∀ x, gDiv [.int x, .int 11] = some (.int (x / 11)) := fun x => g_div (by decide) (sm (by decide))
        have r5 : 0 ≤ cell % 1000003 ∧ cell % 1000003 < 1000003 := ⟨Int.emod_nonneg _ (by decide), Int.emod_lt_of_pos _ (by decide)⟩
        have hP1 := hP cell
        generalize cell % 1000003 = c3 at *
        have hmul2 := g_mul (a := c3) (b := 31) r5.1 (sm (by omega)) (by decide) (sm (by decide))
        refine ⟨(c3 * 31 + b2 / 11) % many, a1, b2, c, ?_, ⟨by omega, r3, r4⟩, Int.emod_nonneg _ (by omega), Int.emod_lt_of_pos _ hm⟩
        simp [m__law_taken, runB, b__law_taken, rowD, at40, at41, at42, at43, hc', hl', ha1, hmd, hmul, hM1, hat, g_pow18, hbig', hP1, hmul2, h11, gSet, isOwn, pu41, pu42, ow0]
end PD

set_option linter.all false
set_option maxRecDepth 100000
set_option maxHeartbeats 1000000
namespace PD
open PySem PySem.Spec PyProof.Rows L2 K13
@[simp] theorem x_rCallB {n i : Nat} {g : O → List D → FB} {f : S → R (List W)} {s : S} : rCallB n i g f s = if isOwn s i = true then (f s).bind (goB n i g) else .st := rfl
@[simp] theorem x_goB {n i : Nat} {g : O → List D → FB} {ws : List W} {s1 : S} : goB n i g ws s1 = match fzL ws, s1[i]? with
  | some ds, some (.ow o) => if ds.length = n then (match g o ds with
    | .ok r o' => .ok r (s1.set i (.ow o'))
    | .er c ns es o' => .er c ns es (s1.set i (.ow o'))
    | .st => .st) else .st
  | _, _ => .st := rfl
theorem p_pick {ns : List Int} {a b c : Int} {xs : List D} (hI : RowI a b) (h0 : xs ≠ []) (hl : xs.length ≤ 100) : ∃ x a' b' c', m__law_pick (.lst (rowD ns a b c)) [.lst xs] = .ok (.d x) (.lst (rowD ns a' b' c')) ∧ RowI a' b' ∧ x ∈ xs := by
  have hpos : 0 < xs.length := List.length_pos_iff.mpr h0
  obtain ⟨v, a', b', c', e, hI', h1, h2⟩ := p_taken (ns := ns) (c := c) (many := xs.length) hI (by omega) (by omega)
  obtain ⟨i, rfl⟩ := Int.eq_ofNat_of_zero_le h1
  have hi : i < xs.length := by omega
  refine ⟨xs[i], a', b', c', ?_, hI', List.getElem_mem hi⟩
  have hat := atI_nat hi
  simp [m__law_pick, runB, b__law_pick, isOwn, e, hat, ow0]
theorem lc_pieces {ns : List Int} {size : Int} {c m : D} (h0 : 0 < size) (h1 : size < 2 ^ 62) : ∀ (ds : List D) (a b d : Int), RowI a b → ∃ xs a' b' d', lcD [4] (gN 4) tYesD (eBin gAdd (eC (.int 1)) (eFz (rCallB 1 0 m__law_taken (aCons (eV 3) aNil)))) ds [.ow (.lst (rowD ns a b d)), .fz c, .fz m, .fz (.int size), .no] = .ok (iD xs) [.ow (.lst (rowD ns a' b' d')), .fz c, .fz m, .fz (.int size), .no] ∧
    RowI a' b' ∧ xs.length = ds.length ∧ ∀ x ∈ xs, 1 ≤ x ∧ x ≤ size
  | [], a, b, d, hI => ⟨[], a, b, d, rfl, hI, rfl, fun x hx => by cases hx⟩
  | x :: ds, a, b, d, hI => by
    obtain ⟨v, a', b', c', e, hI', g1, g2⟩ := p_taken (ns := ns) (c := d) hI h0 h1
    obtain ⟨xs, a2, b2, d2, e2, hI2, l2, p2⟩ := lc_pieces (ns := ns) (c := c) (m := m) h0 h1 ds a' b' c' hI'
    refine ⟨(1 + v) :: xs, a2, b2, d2, ?_, hI2, by simp [l2], fun y hy => ?_⟩
    · have hg : gN 4 x [.ow (.lst (rowD ns a b d)), .fz c, .fz m, .fz (.int size), .no] = .ok () [.ow (.lst (rowD ns a b d)), .fz c, .fz m, .fz (.int size), .fz x] := by simp
      have hf : eBin gAdd (eC (.int 1)) (eFz (rCallB 1 0 m__law_taken (aCons (eV 3) aNil))) [.ow (.lst (rowD ns a b d)), .fz c, .fz m, .fz (.int size), .fz x] = .ok (.d (.int (1 + v))) [.ow (.lst (rowD ns a' b' c')), .fz c, .fz m, .fz (.int size), .fz x] := by
        simp [isOwn, e]
      have hcl : clr [4] [.ow (.lst (rowD ns a' b' c')), .fz c, .fz m, .fz (.int size), .fz x] = [.ow (.lst (rowD ns a' b' c')), .fz c, .fz m, .fz (.int size), .no] := rfl
      have hno : noOwn [4] [.ow (.lst (rowD ns a' b' c')), .fz c, .fz m, .fz (.int size), .fz x] = true := rfl
      simp only [lcD, hg, x_yes, PD.R.bind_ok, if_true, hf, x_fzW, hno, hcl, e2, iD, List.map_cons]
    · rcases List.mem_cons.mp hy with rfl | hy
      · omega
      · exact p2 y hy
theorem p_pieces {ns : List Int} {a b c coil most : Int} (hI : RowI a b) (hc : 1 ≤ coil ∧ coil ≤ 99) (hm : 0 ≤ most ∧ most ≤ 10) : ∃ ps a' b' c', m__law_pieces (.lst (rowD ns a b c)) [.int coil, .int most] = .ok (.d (.tup (iD ps))) (.lst (rowD ns a' b' c')) ∧ RowI a' b' ∧ (ps.length : Int) ≤ most ∧ ∀ p ∈ ps, 1 ≤ p ∧ p ≤ coil := by
  obtain ⟨x, a1, b1, c1, e1, hI1, hx⟩ := p_pick (ns := ns) (c := c) (xs := [.int coil, .int (if coil / 2 > 1 then coil / 2 else 1), .int (if coil / 3 + 1 > 1 then coil / 3 + 1 else 1)]) hI (by simp) (by simp)
  obtain ⟨size, rfl, hs1, hs2⟩ : ∃ size, x = .int size ∧ 1 ≤ size ∧ size ≤ coil := by
    simp only [List.mem_cons, List.not_mem_nil, or_false] at hx
    rcases hx with rfl | rfl | rfl
    · exact ⟨_, rfl, by omega, by omega⟩
    · refine ⟨_, rfl, ?_, ?_⟩ <;> split <;> omega
    · refine ⟨_, rfl, ?_, ?_⟩ <;> split <;> omega
  obtain ⟨v, a2, b2, c2, e2, hI2, g1, g2⟩ := p_taken (ns := ns) (c := c1) (many := most + 1) hI1 (by omega) (by omega)
  obtain ⟨xs, a3, b3, c3, e3, hI3, l3, p3⟩ := lc_pieces (ns := ns) (c := .int coil) (m := .int most) (size := size) (by omega) (by omega) (rngD 0 v) a2 b2 c2 hI2
  rw [rng_len] at l3
  refine ⟨xs, a3, b3, c3, ?_, hI3, by omega, fun p hp => ⟨(p3 p hp).1, by have := (p3 p hp).2; omega⟩⟩
  have hi : iOf gRng1 (aCons (eFz (rCallB 1 0 m__law_taken (aCons (eBin gAdd (eV 2) (eC (.int 1))) aNil))) aNil) [.ow (.lst (rowD ns a1 b1 c1)), .fz (.int coil), .fz (.int most), .fz (.int size), .no] = .ok (rngD 0 v) [.ow (.lst (rowD ns a2 b2 c2)), .fz (.int coil), .fz (.int most), .fz (.int size), .no] := by
    refine iOf_ok (ws := [.d (.int v)]) ?_ (g_rng1 g1 (by omega))
    simp [isOwn, e2]
  have hL : eLcD [4] (gN 4) (iOf gRng1 (aCons (eFz (rCallB 1 0 m__law_taken (aCons (eBin gAdd (eV 2) (eC (.int 1))) aNil))) aNil)) tYesD (eBin gAdd (eC (.int 1)) (eFz (rCallB 1 0 m__law_taken (aCons (eV 3) aNil)))) [.ow (.lst (rowD ns a1 b1 c1)), .fz (.int coil), .fz (.int most), .fz (.int size), .no] =
      .ok (.d (.lst (iD xs))) [.ow (.lst (rowD ns a3 b3 c3)), .fz (.int coil), .fz (.int most), .fz (.int size), .no] := by
    have hno : noOwn [4] [.ow (.lst (rowD ns a2 b2 c2)), .fz (.int coil), .fz (.int most), .fz (.int size), .no] = true := rfl
    have hcl : clr [4] [.ow (.lst (rowD ns a2 b2 c2)), .fz (.int coil), .fz (.int most), .fz (.int size), .no] = [.ow (.lst (rowD ns a2 b2 c2)), .fz (.int coil), .fz (.int most), .fz (.int size), .no] := rfl
    unfold eLcD eLc
    rw [hi, PD.R.bind_ok, if_pos ⟨hno, by rw [rng_len]; unfold lim; omega⟩, hcl, e3]
    rfl
  unfold m__law_pieces runB b__law_pieces
  generalize eLcD [4] (gN 4) (iOf gRng1 (aCons (eFz (rCallB 1 0 m__law_taken (aCons (eBin gAdd (eV 2) (eC (.int 1))) aNil))) aNil)) tYesD (eBin gAdd (eC (.int 1)) (eFz (rCallB 1 0 m__law_taken (aCons (eV 3) aNil)))) = ff at *
  have hd2 : gDiv [.int coil, .int 2] = some (.int (coil / 2)) := g_div (by decide) (sm (by decide))
  have hd3 : gDiv [.int coil, .int 3] = some (.int (coil / 3)) := g_div (by decide) (sm (by decide))
  have hm2 : gMax [.int 1, .int (coil / 2)] = some (.int (if coil / 2 > 1 then coil / 2 else 1)) := rfl
  have hm3 : gMax [.int 1, .int (coil / 3 + 1)] = some (.int (if coil / 3 + 1 > 1 then coil / 3 + 1 else 1)) := rfl
  generalize (if coil / 2 > 1 then coil / 2 else 1) = y2 at *
  generalize (if coil / 3 + 1 > 1 then coil / 3 + 1 else 1) = y3 at *
  simp [-g_max, hd2, hd3, hm2, hm3, isOwn, e1, hL, ow0]
theorem eqbb (b : Bool) : gEq [.bl b, .bl b] = some (.bl true) := gEq_self (p := .bool b) (by simp [dok, D.toP, SeqAt.shaped, PyData.canLay0, PyData.depth])
theorem eqnn : gEq [.non, .non] = some (.bl true) := gEq_self (p := .none) (by simp [dok, D.toP, SeqAt.shaped, PyData.canLay0, PyData.depth])
theorem p_alikeI (k : Int) : m__law_alike 3 [.int k, .int k] = .ok (.d (.bl true)) := by
  have h1 : gIsi2 "tuple" "list" [.int k] = some (.bl false) := by simp [gIsi2, tyD, show kitB "int" "tuple" = some false by decide +kernel, show kitB "int" "list" = some false by decide +kernel]
  have h2 : gIsN [.int k, .non] = some (.bl false) := rfl
  have h3 := gEq_self (dok_i k)
  show runP 3 (b__law_alike (m__law_alike 2)) _ = _
  simp [runP, b__law_alike, h1, h2, istr, ii, ib, eqbb, h3]
theorem p_alikeN : m__law_alike 3 [.non, .non] = .ok (.d (.bl true)) := by
  have h1 : gIsi2 "tuple" "list" [.non] = some (.bl false) := by simp [gIsi2, tyD, show kitB "NoneType" "tuple" = some false by decide +kernel, show kitB "NoneType" "list" = some false by decide +kernel]
  have h2 : gIsN [.non, .non] = some (.bl true) := rfl
  have h4 : gIsi "str" [.non] = some (.bl false) := by simp [gIsi, tyD, show kitB "NoneType" "str" = some false by decide +kernel]
  show runP 3 (b__law_alike (m__law_alike 2)) _ = _
  simp [runP, b__law_alike, h1, h2, h4, eqbb, eqnn]
end PD

set_option linter.all false
set_option maxRecDepth 100000
set_option maxHeartbeats 1000000
namespace PD
open PySem PySem.Spec PyProof.Rows L2 K13
theorem lcD_filter {vs : List Nat} {t : D → S → R Unit} {c : S → R Bool} {f : S → R W} {s0 : S} (q : D → Bool) : ∀ {ds : List D}, (∀ d ∈ ds, ∃ s1, t d s0 = .ok () s1 ∧ c s1 = .ok (q d) s1 ∧ f s1 = .ok (.d d) s1 ∧ noOwn vs s1 = true ∧ clr vs s1 = s0) → lcD vs t c f ds s0 = .ok (ds.filter q) s0
  | [], _ => rfl
  | d :: ds, h => by
    obtain ⟨s1, e1, e2, e3, e4, e5⟩ := h d List.mem_cons_self
    have ih := lcD_filter q (ds := ds) fun x hx => h x (List.mem_cons_of_mem _ hx)
    cases hq : q d with
    | true => simp only [lcD, e1, e2, e3, hq, PD.R.bind_ok, if_true, x_fzW, e4, e5, ih, List.filter_cons_of_pos hq]
    | false => 
      have hq' : ¬ q d = true := by rw [hq]; simp
      simp only [lcD, e1, e2, hq, PD.R.bind_ok, e4, e5, ih, List.filter_cons_of_neg hq']
      simp
def leB : S → SR := sNil
noncomputable def lcF : S → SR := sIf (cVal (eBin gLe (eFz (rCall 2 m_fewest_coils (aCons (eV 2) (aCons (eV 0) aNil)))) (eV 1))) (sRet (eV 2)) sNil
theorem least_loop {ps : List Int} {many : Int} {kf : Int → Int} : ∀ (L : List Int) (x2 : Sl), (∀ c ∈ L, m_fewest_coils [.int c, .tup (iD ps)] = .ok (.d (.int (kf c)))) →
    ∃ y2, forD (gN 2) lcF (iD L) [.fz (.tup (iD ps)), .fz (.int many), x2] = match (L.filter fun c => decide (kf c ≤ many)).head? with
      | some c => .rt (.d (.int c)) [.fz (.tup (iD ps)), .fz (.int many), y2]
      | none => .nx [.fz (.tup (iD ps)), .fz (.int many), y2]
  | [], x2, _ => ⟨x2, rfl⟩
  | c :: L, x2, h => by
    have h1 := h c List.mem_cons_self
    obtain ⟨y2, ih⟩ := least_loop L (.fz (.int c)) (ps := ps) (many := many) (kf := kf) fun x hx => h x (List.mem_cons_of_mem _ hx)
    have hg : gN 2 (.int c) [.fz (.tup (iD ps)), .fz (.int many), x2] = .ok () [.fz (.tup (iD ps)), .fz (.int many), .fz (.int c)] := by simp
    by_cases hq : kf c ≤ many
    · refine ⟨.fz (.int c), ?_⟩
      have hb : lcF [.fz (.tup (iD ps)), .fz (.int many), .fz (.int c)] = .rt (.d (.int c)) [.fz (.tup (iD ps)), .fz (.int many), .fz (.int c)] := by simp [lcF, h1, hq]
      rw [List.filter_cons_of_pos (by simpa using hq)]
      simp only [iD, List.map_cons, forD, hg, tgo_ok, List.head?_cons]
      simp only [iD] at hb
      rw [hb]
    · refine ⟨y2, ?_⟩
      have hb : lcF [.fz (.tup (iD ps)), .fz (.int many), .fz (.int c)] = .nx [.fz (.tup (iD ps)), .fz (.int many), .fz (.int c)] := by simp [lcF, h1, hq]
      rw [List.filter_cons_of_neg (by simpa using hq)]
      simp only [iD] at hb ih hg
      simp only [iD, List.map_cons, forD, hg, tgo_ok]
      rw [hb]
      exact ih
def rngI (lo hi : Int) : List Int := (List.range (hi - lo).toNat).map fun i : Nat => lo + i
theorem rng_iD (lo hi : Int) : rngD lo hi = iD (rngI lo hi) := by simp [rngD, rngI, iD]
theorem mem_rngI {lo hi c : Int} : c ∈ rngI lo hi ↔ lo ≤ c ∧ c < hi := by
  unfold rngI
  rw [List.mem_map]
  constructor
  · rintro ⟨i, h1, rfl⟩; have := List.mem_range.mp h1; omega
  · rintro ⟨h1, h2⟩; exact ⟨(c - lo).toNat, List.mem_range.mpr (by omega), by omega⟩
def outD : Option Int → D
  | some c => .int c
  | none => .non
theorem p_least {ps : List Int} {many M : Int} {kf : Int → Int} (h : Ok 99 ps) (hm : 0 ≤ many ∧ many ≤ 10) (hM : ps.max?.getD 1 = M) (hM2 : 0 ≤ M ∧ M ≤ 100) (hk : ∀ c ∈ rngI M 100, m_fewest_coils [.int c, .tup (iD ps)] = .ok (.d (.int (kf c)))) :
    m_least_coil [.tup (iD ps), .int many] = .ok (.d (outD ((rngI M 100).filter fun c => decide (kf c ≤ many)).head?)) := by
  have hr := p_require h.c h.n h.p
  have hw := p_within many 0 10
  rw [decide_eq_true hm.1, decide_eq_true hm.2] at hw
  obtain ⟨y2, e⟩ := least_loop (ps := ps) (many := many) (rngI M 100) .no hk
  have hmx : gMaxD [.tup (iD ps), .int 1] = some (.int M) := by simp only [gMaxD, allInt_iD, Option.bind_some, hM]
  have hi : iOf gRng2 (aCons (eBin gMaxD (eV 0) (eC (.int 1))) (aCons (eBin gAdd (eC (.int 99)) (eC (.int 1))) aNil)) [.fz (.tup (iD ps)), .fz (.int many), .no] = .ok (iD (rngI M 100)) [.fz (.tup (iD ps)), .fz (.int many), .no] := by
    rw [← rng_iD]
    refine iOf_ok (ws := [.d (.int M), .d (.int 100)]) ?_ (g_rng2 hM2.1 (by omega) (by decide) (by decide))
    simp [hmx]
  have h1 : (sDrop (eFz (rCall 2 m_require_pieces (aCons (eC (.int 99)) (aCons (eV 0) aNil))))) [.fz (.tup (iD ps)), .fz (.int many), .no] = .nx [.fz (.tup (iD ps)), .fz (.int many), .no] := by simp [hr]
  have h2 : (sIf (cNot (cVal (eFz (rCall 3 m_is_within (aCons (eV 1) (aCons (eC (.int 0)) (aCons (eC (.int 10)) aNil))))))) sNever sNil) [.fz (.tup (iD ps)), .fz (.int many), .no] = .nx [.fz (.tup (iD ps)), .fz (.int many), .no] := by simp [hw]
  have eo : lcF = sIf (cVal (eBin gLe (eFz (rCall 2 m_fewest_coils (aCons (eV 2) (aCons (eV 0) aNil)))) (eV 1))) (sRet (eV 2)) sNil := rfl
  unfold m_least_coil runP b_least_coil
  rw [← eo]
  show (match (sSeq _ (sSeq _ (sSeq _ _))) [.fz (.tup (iD ps)), .fz (.int many), .no] with
    | .nx _ => FR.ok (.d .non) | .rt r _ => .ok r | .er c ns ds _ => .er c ns ds | _ => .st) = _
  rw [x_seq, h1]
  simp only []
  rw [x_seq, h2]
  simp only []
  rw [x_seq, x_for, hi, sBind_ok, e]
  cases ((rngI M 100).filter fun c => decide (kf c ≤ many)).head? with
  | none => rfl
  | some c => rfl
end PD

set_option linter.all false
set_option maxRecDepth 100000
set_option maxHeartbeats 2000000
namespace PD
open PySem PySem.Spec PyProof.Rows L2 K13
/-- a state of the law's frame -/
def lw (ns : List Int) (a b c : Int) (x2 x3 x4 x5 x6 x7 x8 x9 x10 : Sl) : S := [.fz (.scr ns), .ow (.lst (rowD ns a b c)), x2, x3, x4, x5, x6, x7, x8, x9, x10, .no, .no]
noncomputable def q1 : S → SR := sAsg (gN 3) (eBin gAdd (eC (.int 1)) (eFz (rCallB 1 1 m__law_taken (aCons (eFz (rCallB 1 1 m__law_pick (aCons (eLst (aCons (eC (.int 9)) (aCons (eC (.int 30)) (aCons (eC (.int 99)) aNil)))) aNil))) aNil))))
theorem q1_run {ns : List Int} {a b c : Int} {x2 x3 x4 x5 x6 x7 x8 x9 x10 : Sl} (hI : RowI a b) : ∃ coil a' b' c', q1 (lw ns a b c x2 x3 x4 x5 x6 x7 x8 x9 x10) = .nx (lw ns a' b' c' x2 (.fz (.int coil)) x4 x5 x6 x7 x8 x9 x10) ∧ RowI a' b' ∧ 1 ≤ coil ∧ coil ≤ 99 := by
  obtain ⟨x, a1, b1, c1, e1, hI1, hx⟩ := p_pick (ns := ns) (c := c) (xs := [.int 9, .int 30, .int 99]) hI (by simp) (by simp)
  obtain ⟨m, rfl, hm1, hm2⟩ : ∃ m, x = .int m ∧ 1 ≤ m ∧ m ≤ 99 := by
    simp only [List.mem_cons, List.not_mem_nil, or_false] at hx
    rcases hx with rfl | rfl | rfl
    · exact ⟨_, rfl, by decide, by decide⟩
    · exact ⟨_, rfl, by decide, by decide⟩
    · exact ⟨_, rfl, by decide, by decide⟩
  obtain ⟨v, a2, b2, c2, e2, hI2, g1, g2⟩ := p_taken (ns := ns) (c := c1) (many := m) hI1 (by omega) (by omega)
  refine ⟨1 + v, a2, b2, c2, ?_, hI2, by omega, by omega⟩
  simp [q1, lw, isOwn, e1, e2]
noncomputable def q2 : S → SR := sAsg (gN 4) (eFz (rCallB 2 1 m__law_pieces (aCons (eV 3) (aCons (eFz (rCallB 1 1 m__law_pick (aCons (eLst (aCons (eC (.int 4)) (aCons (eC (.int 7)) (aCons (eC (.int 9)) (aCons (eC (.int 10)) aNil))))) aNil))) aNil))))
theorem q2_run {ns : List Int} {a b c coil : Int} {x2 x4 x5 x6 x7 x8 x9 x10 : Sl} (hI : RowI a b) (hc : 1 ≤ coil ∧ coil ≤ 99) : ∃ ps a' b' c', q2 (lw ns a b c x2 (.fz (.int coil)) x4 x5 x6 x7 x8 x9 x10) = .nx (lw ns a' b' c' x2 (.fz (.int coil)) (.fz (.tup (iD ps))) x5 x6 x7 x8 x9 x10) ∧ RowI a' b' ∧ Ok coil ps := by
  obtain ⟨x, a1, b1, c1, e1, hI1, hx⟩ := p_pick (ns := ns) (c := c) (xs := [.int 4, .int 7, .int 9, .int 10]) hI (by simp) (by simp)
  obtain ⟨m, rfl, hm1, hm2⟩ : ∃ m, x = .int m ∧ 0 ≤ m ∧ m ≤ 10 := by
    simp only [List.mem_cons, List.not_mem_nil, or_false] at hx
    rcases hx with rfl | rfl | rfl | rfl <;> exact ⟨_, rfl, by decide, by decide⟩
  obtain ⟨ps, a2, b2, c2, e2, hI2, l2, p2⟩ := p_pieces (ns := ns) (c := c1) (coil := coil) (most := m) hI1 hc ⟨hm1, hm2⟩
  refine ⟨ps, a2, b2, c2, ?_, hI2, hc, by omega, p2⟩
  simp [q2, lw, isOwn, e1, e2]
noncomputable def q3 : S → SR := sPar2 5 6 (rCons (rDat (eFz (rCall 2 m__law_coils (aCons (eV 3) (aCons (eV 4) aNil))))) (rCons (rDat (eFz (rCall 2 m_cutting (aCons (eV 3) (aCons (eV 4) aNil))))) rNil))
theorem q3_run {ns : List Int} {a b c coil : Int} {ps : List Int} {x2 x5 x6 x7 x8 x9 x10 : Sl} (h : Ok coil ps) : ∃ k rs, q3 (lw ns a b c x2 (.fz (.int coil)) (.fz (.tup (iD ps))) x5 x6 x7 x8 x9 x10) = .nx (lw ns a b c x2 (.fz (.int coil)) (.fz (.tup (iD ps))) (.fz (.int k)) (.fz (.tup (rD_ rs))) x7 x8 x9 x10) ∧ Least coil ps k ∧ Cutting coil ps k rs := by
  obtain ⟨k, e1, h1⟩ := p_coils h
  obtain ⟨k', rs, e2, h2, h3⟩ := p_cutting h
  have := h1.eq h3
  subst this
  exact ⟨k, rs, by simp [q3, lw, e1, e2], h1, h2⟩
noncomputable def q4 : S → SR := sIf (cOr (cNot (cVal (eFz (rCall 2 (m__law_alike 3) (aCons (eFz (rCall 2 m_fewest_coils (aCons (eV 3) (aCons (eV 4) aNil)))) (aCons (eV 5) aNil)))))) (cOr (cNot (cVal (eUn (gIsi "tuple") (eV 6)))) (cOr (cVal (eBin gNe (eApp gLen (aCons (eV 6) aNil)) (eV 5))) (cVal (eBin gNe (eApp gList (aCons (eV 6) aNil)) (eApp gSorted (aCons (eV 6) aNil))))))) (sRet (eC (.bl false))) sNil
theorem q4_run {ns : List Int} {a b c coil k : Int} {ps : List Int} {rs : List (List Int)} {x2 x7 x8 x9 x10 : Sl} (h : Ok coil ps) (hk : Least coil ps k) (C : Cutting coil ps k rs) : q4 (lw ns a b c x2 (.fz (.int coil)) (.fz (.tup (iD ps))) (.fz (.int k)) (.fz (.tup (rD_ rs))) x7 x8 x9 x10) = .nx (lw ns a b c x2 (.fz (.int coil)) (.fz (.tup (iD ps))) (.fz (.int k)) (.fz (.tup (rD_ rs))) x7 x8 x9 x10) := by
  obtain ⟨k', e1, h1⟩ := p_fewest h
  have := hk.eq h1
  subst this
  have ha := p_alikeI k
  have ht := itt (rD_ rs)
  obtain ⟨l1, l2, l3⟩ := C.small h.n
  have hsr := gSorted_tR (rs := rs) (by unfold lim; omega) fun r hr => (C.rows r hr).1
  rw [C.so] at hsr
  have hne2 := gNe_self (dok_lR rs)
  have hne := gNe_int k k
  rw [show decide (k ≠ k) = false by simp] at hne
  have hl : ((rD_ rs).length : Int) = k := by rw [List.length_map]; exact C.len
  generalize rD_ rs = RR at *
  simp [q4, lw, e1, ha, ht, hl, hne, hsr, hne2]
noncomputable def q6b : S → SR := sSeq (sIf (cOr (cVal (eBin gEq (eV 8) (eTup aNil))) (cOr (cVal (eBin gNe (eApp gList (aCons (eV 8) aNil)) (eApp gSorted (aCons (eV 8) aNil)))) (cVal (eBin gGt (eApp gSumT (aCons (eLcD [11] (gN 11) (iSeq (eV 8)) tYesD (eBin gIx2 (eV 4) (eV 11))) aNil)) (eV 3))))) (sRet (eC (.bl false))) sNil) (sExt 7 (eApp gList (aCons (eV 8) aNil)))
theorem q6b_run {ns : List Int} {a b c coil k : Int} {ps r fl : List Int} {x2 x5 x6 x9 x10 : Sl} (hr : r ≠ [] ∧ srt r = r ∧ (r.map (pP ps)).sum ≤ coil) (hz : ∀ z ∈ r, ∃ j : Nat, j < ps.length ∧ z = j) (hl : r.length ≤ 10) (hf : fl.length + r.length ≤ 10) :
    q6b (lw ns a b c x2 (.fz (.int coil)) (.fz (.tup (iD ps))) x5 x6 (.ow (.lst (iD fl))) (.fz (.tup (iD r))) x9 x10) = .nx (lw ns a b c x2 (.fz (.int coil)) (.fz (.tup (iD ps))) x5 x6 (.ow (.lst (iD (fl ++ r)))) (.fz (.tup (iD r))) x9 x10) := by
  have h1 : gEq [.tup (iD r), .tup []] = some (.bl false) := by
    have := gEq_tI r []
    rw [decide_eq_false hr.1] at this
    exact this
  have hs := gSorted_tI (ns := r) (by unfold lim; omega)
  rw [hr.2.1] at hs
  have hne := gNe_self (dok_lI r)
  have hi : (eLcD [11] (gN 11) (iSeq (eV 8)) tYesD (eBin gIx2 (eV 4) (eV 11))) (lw ns a b c x2 (.fz (.int coil)) (.fz (.tup (iD ps))) x5 x6 (.ow (.lst (iD fl))) (.fz (.tup (iD r))) x9 x10) = .ok (.d (.lst ((iD r).map fun d => match d with | .int z => D.int (pP ps z) | d => d))) (lw ns a b c x2 (.fz (.int coil)) (.fz (.tup (iD ps))) x5 x6 (.ow (.lst (iD fl))) (.fz (.tup (iD r))) x9 x10) := by
    refine eLcD_map (ds := iD r) _ (by simp [lw]) rfl (by rw [List.length_map]; unfold lim; omega) (fun d hd => ?_) rfl
    obtain ⟨z, hzr, rfl⟩ := mem_iD hd
    have := at_pP (hz z hzr)
    exact ⟨(lw ns a b c x2 (.fz (.int coil)) (.fz (.tup (iD ps))) x5 x6 (.ow (.lst (iD fl))) (.fz (.tup (iD r))) x9 x10).set 11 (.fz (.int z)), by simp [clr, lw], rfl, by simp [this, lw], rfl, rfl⟩
  have hsum := sum_at hz
  have hgt : ¬ coil < (r.map (pP ps)).sum := by have := hr.2.2; omega
  have e0 : iD (fl ++ r) = iD fl ++ iD r := by simp [iD]
  have hlen : (iD fl).length + (iD r).length ≤ lim := by simp only [List.length_map]; unfold lim; omega
  rw [e0]
  unfold q6b
  generalize (eLcD [11] (gN 11) (iSeq (eV 8)) tYesD (eBin gIx2 (eV 4) (eV 11))) = ff at *
  generalize ((iD r).map fun d => match d with | .int z => D.int (pP ps z) | d => d) = ys at *
  simp only [lw] at hi ⊢
  generalize iD fl = FL at *
  generalize iD r = RR at *
  simp [h1, hs, hne, hi, hsum, hgt, isOwnL, hlen]
noncomputable def q6 : S → SR := sFor (gN 8) (iSeq (eV 6)) q6b
theorem q6_run {ns : List Int} {a b c coil k : Int} {ps : List Int} {rs : List (List Int)} {x2 x5 x8 x9 x10 : Sl} (h : Ok coil ps) (C : Cutting coil ps k rs) :
    ∃ y8, q6 (lw ns a b c x2 (.fz (.int coil)) (.fz (.tup (iD ps))) x5 (.fz (.tup (rD_ rs))) (.ow (.lst [])) x8 x9 x10) = .nx (lw ns a b c x2 (.fz (.int coil)) (.fz (.tup (iD ps))) x5 (.fz (.tup (rD_ rs))) (.ow (.lst (iD rs.flatten))) y8 x9 x10) := by
  obtain ⟨l1, l2, l3⟩ := C.small h.n
  obtain ⟨s', e, h'⟩ := forD_inv (t := gN 8) (f := q6b) (ds := rD_ rs) (k := 0) (s := lw ns a b c x2 (.fz (.int coil)) (.fz (.tup (iD ps))) x5 (.fz (.tup (rD_ rs))) (.ow (.lst [])) x8 x9 x10)
    (fun i s => ∃ x8, s = lw ns a b c x2 (.fz (.int coil)) (.fz (.tup (iD ps))) x5 (.fz (.tup (rD_ rs))) (.ow (.lst (iD (rs.take i).flatten))) x8 x9 x10) ⟨x8, rfl⟩ fun i d s hd ⟨x8, e⟩ => by
      subst e
      rw [Nat.zero_add]
      rw [List.getElem?_map] at hd
      cases hi : rs[i]? with
      | none => rw [hi] at hd; cases hd
      | some r =>
        rw [hi] at hd
        cases hd
        have hmem := List.mem_of_getElem? hi
        have et : (rs.take (i + 1)).flatten = (rs.take i).flatten ++ r := by rw [List.take_add_one, hi]; simp
        have hlen : (rs.take i).flatten.length + r.length ≤ 10 := by
          have : (rs.take (i + 1)).flatten.length ≤ rs.flatten.length := by
            have := List.take_append_drop (i + 1) rs
            have h2 : rs.flatten.length = (rs.take (i + 1)).flatten.length + (rs.drop (i + 1)).flatten.length := by rw [← List.length_append, ← List.flatten_append, this]
            omega
          rw [et, List.length_append] at this
          omega
        refine ⟨lw ns a b c x2 (.fz (.int coil)) (.fz (.tup (iD ps))) x5 (.fz (.tup (rD_ rs))) (.ow (.lst (iD (rs.take i).flatten))) (.fz (.tup (iD r))) x9 x10, by simp [lw], _, q6b_run (k := k) (C.rows r hmem) (l3 r hmem).2 (l3 r hmem).1 hlen, .fz (.tup (iD r)), ?_⟩
        rw [et]
  obtain ⟨y8, rfl⟩ := h'
  rw [List.length_map, Nat.zero_add, List.take_length] at e
  refine ⟨y8, ?_⟩
  have hi : iSeq (eV 6) (lw ns a b c x2 (.fz (.int coil)) (.fz (.tup (iD ps))) x5 (.fz (.tup (rD_ rs))) (.ow (.lst [])) x8 x9 x10) = .ok (rD_ rs) (lw ns a b c x2 (.fz (.int coil)) (.fz (.tup (iD ps))) x5 (.fz (.tup (rD_ rs))) (.ow (.lst [])) x8 x9 x10) := by simp [lw]
  rw [q6, x_for, hi, sBind_ok, e]
noncomputable def q7 : S → SR := sIf (cOr (cVal (eBin gNe (eApp gSorted (aCons (eV 7) aNil)) (eUn gLRg1 (eApp gLen (aCons (eV 4) aNil))))) (cVal (eBin gNotB (eFz (rCall 3 m_is_cutting (aCons (eV 3) (aCons (eV 4) (aCons (eV 6) aNil))))) (eC (.bl true))))) (sRet (eC (.bl false))) sNil
noncomputable def q8 : S → SR := sIf (cNot (cVal (eFz (rCall 2 (m__law_alike 3) (aCons (eFz (rCall 3 m_waste (aCons (eV 3) (aCons (eV 4) (aCons (eV 6) aNil))))) (aCons (eBin gSub (eBin gMul (eV 5) (eV 3)) (eApp gSumT (aCons (eV 4) aNil))) aNil)))))) (sRet (eC (.bl false))) sNil
theorem q78_run {ns : List Int} {a b c coil k : Int} {ps : List Int} {rs : List (List Int)} {x2 x8 x9 x10 : Sl} (h : Ok coil ps) (hk : Least coil ps k) (C : Cutting coil ps k rs) :
    q7 (lw ns a b c x2 (.fz (.int coil)) (.fz (.tup (iD ps))) (.fz (.int k)) (.fz (.tup (rD_ rs))) (.ow (.lst (iD rs.flatten))) x8 x9 x10) = .nx (lw ns a b c x2 (.fz (.int coil)) (.fz (.tup (iD ps))) (.fz (.int k)) (.fz (.tup (rD_ rs))) (.ow (.lst (iD rs.flatten))) x8 x9 x10) ∧
    q8 (lw ns a b c x2 (.fz (.int coil)) (.fz (.tup (iD ps))) (.fz (.int k)) (.fz (.tup (rD_ rs))) (.ow (.lst (iD rs.flatten))) x8 x9 x10) = .nx (lw ns a b c x2 (.fz (.int coil)) (.fz (.tup (iD ps))) (.fz (.int k)) (.fz (.tup (rD_ rs))) (.ow (.lst (iD rs.flatten))) x8 x9 x10) := by
  obtain ⟨l1, l2, l3⟩ := C.small h.n
  have hso := gSorted_lI (ns := rs.flatten) (by unfold lim; omega)
  rw [srt_eq C.perm (range_sorted _)] at hso
  have hrg := gLRg h.n
  have hne := gNe_self (dok_lI ((List.range ps.length).map fun i : Nat => (i : Int)))
  have hic := p_isCut h C
  have hwa := p_waste h C
  have hnb : gNotB [.bl true, .bl true] = some (.bl false) := rfl
  have hc := h.c
  have hkk : 0 ≤ k ∧ k < 2 ^ 62 := by have := C.len; omega
  have hmul := g_mul (a := k) (b := coil) hkk.1 (sm hkk.2) (by omega) (sm (by omega))
  have hs : gSumT [.tup (iD ps)] = some (.int ps.sum) := by simp only [gSumT, allInt_iD, Option.map_some]
  have hal := p_alikeI (k * coil - ps.sum)
  have hlen : (iD ps).length = ps.length := by simp
  generalize iD rs.flatten = FL at *
  generalize iD ((List.range ps.length).map fun i : Nat => (i : Int)) = RG at *
  generalize rD_ rs = RR at *
  constructor
  · simp [q7, lw, hso, hrg, hne, hic, hnb]
  · simp [q8, lw, hwa, hmul, hs, hal]
end PD

set_option linter.all false
set_option maxRecDepth 100000
set_option maxHeartbeats 2000000
namespace PD
open PySem PySem.Spec PyProof.Rows L2 K13
noncomputable def turnB : S → SR := sSeq q1 (sSeq q2 (sSeq q3 (sSeq q4 (sSeq (sOwn 7 (rLst aNil)) (sSeq q6 (sSeq q7 q8))))))
theorem turn_run {ns : List Int} {a b c : Int} {x2 x3 x4 x5 x6 x7 x8 x9 x10 : Sl} (hI : RowI a b) : ∃ a' b' c' y3 y4 y5 y6 y7 y8, turnB (lw ns a b c x2 x3 x4 x5 x6 x7 x8 x9 x10) = .nx (lw ns a' b' c' x2 y3 y4 y5 y6 y7 y8 x9 x10) ∧ RowI a' b' := by
  obtain ⟨coil, a1, b1, c1, e1, hI1, hc⟩ := q1_run (ns := ns) (c := c) (x2 := x2) (x3 := x3) (x4 := x4) (x5 := x5) (x6 := x6) (x7 := x7) (x8 := x8) (x9 := x9) (x10 := x10) hI
  obtain ⟨ps, a2, b2, c2, e2, hI2, h⟩ := q2_run (ns := ns) (c := c1) (x2 := x2) (x4 := x4) (x5 := x5) (x6 := x6) (x7 := x7) (x8 := x8) (x9 := x9) (x10 := x10) hI1 hc
  obtain ⟨k, rs, e3, hk, C⟩ := q3_run (ns := ns) (a := a2) (b := b2) (c := c2) (x2 := x2) (x5 := x5) (x6 := x6) (x7 := x7) (x8 := x8) (x9 := x9) (x10 := x10) h
  have e4 := q4_run (ns := ns) (a := a2) (b := b2) (c := c2) (x2 := x2) (x7 := x7) (x8 := x8) (x9 := x9) (x10 := x10) h hk C
  have e5 : sOwn 7 (rLst aNil) (lw ns a2 b2 c2 x2 (.fz (.int coil)) (.fz (.tup (iD ps))) (.fz (.int k)) (.fz (.tup (rD_ rs))) x7 x8 x9 x10) = .nx (lw ns a2 b2 c2 x2 (.fz (.int coil)) (.fz (.tup (iD ps))) (.fz (.int k)) (.fz (.tup (rD_ rs))) (.ow (.lst [])) x8 x9 x10) := by simp [lw]
  obtain ⟨y8, e6⟩ := q6_run (ns := ns) (a := a2) (b := b2) (c := c2) (x2 := x2) (x5 := .fz (.int k)) (x8 := x8) (x9 := x9) (x10 := x10) h C
  obtain ⟨e7, e8⟩ := q78_run (ns := ns) (a := a2) (b := b2) (c := c2) (x2 := x2) (x8 := y8) (x9 := x9) (x10 := x10) h hk C
  refine ⟨a2, b2, c2, .fz (.int coil), .fz (.tup (iD ps)), .fz (.int k), .fz (.tup (rD_ rs)), .ow (.lst (iD rs.flatten)), y8, ?_, hI2⟩
  rw [turnB, x_seq, e1]
  simp only []
  rw [x_seq, e2]
  simp only []
  rw [x_seq, e3]
  simp only []
  rw [x_seq, e4]
  simp only []
  rw [x_seq, e5]
  simp only []
  rw [x_seq, e6]
  simp only []
  rw [x_seq, e7]
  simp only []
  rw [e8]
noncomputable def r1 : S → SR := sParT [4, 9] (rCons (rDat (eFz (rCallB 2 1 m__law_pieces (aCons (eC (.int 12)) (aCons (eC (.int 6)) aNil))))) (rCons (rDat (eFz (rCallB 1 1 m__law_taken (aCons (eC (.int 5)) aNil)))) rNil))
theorem r1_run {ns : List Int} {a b c : Int} {x2 x3 x4 x5 x6 x7 x8 x9 x10 : Sl} (hI : RowI a b) : ∃ ps many a' b' c', r1 (lw ns a b c x2 x3 x4 x5 x6 x7 x8 x9 x10) = .nx (lw ns a' b' c' x2 x3 (.fz (.tup (iD ps))) x5 x6 x7 x8 (.fz (.int many)) x10) ∧ Ok 12 ps ∧ 0 ≤ many ∧ many ≤ 4 := by
  obtain ⟨ps, a1, b1, c1, e1, hI1, l1, p1⟩ := p_pieces (ns := ns) (c := c) (coil := 12) (most := 6) hI (by decide) (by decide)
  obtain ⟨v, a2, b2, c2, e2, hI2, g1, g2⟩ := p_taken (ns := ns) (c := c1) (many := 5) hI1 (by decide) (by decide)
  refine ⟨ps, v, a2, b2, c2, ?_, ⟨by decide, by omega, p1⟩, g1, by omega⟩
  simp [r1, sParT, setS, lw, isOwn, e1, e2, lim]
theorem Ok.up {c : Int} {ps : List Int} (h : Ok 12 ps) (h1 : 1 ≤ c) (h2 : c ≤ 99) (hm : ∀ p ∈ ps, p ≤ c) : Ok c ps := ⟨⟨h1, h2⟩, h.n, fun p hp => ⟨(h.p p hp).1, hm p hp⟩⟩
theorem least_pos {c k : Int} {ps : List Int} (h : Least c ps k) (hn : ps ≠ []) : 1 ≤ k := by
  obtain ⟨bins, hb, rfl⟩ := h.ex
  cases bins with
  | nil => exact absurd (by simpa using hb.perm.symm.eq_nil) hn
  | cons b bs => rw [List.length_cons]; omega
noncomputable def cF : S → R W := eLcD [12] (gN 12) (iOf gRng2 (aCons (eApp gMaxT (aCons (eBin gAdd (eTup (aCons (eC (.int 1)) aNil)) (eV 4)) aNil)) (aCons (eC (.int 100)) aNil))) (cVal (eBin gLe (eFz (rCall 2 m__law_coils (aCons (eV 12) (aCons (eV 4) aNil)))) (eV 9))) (eV 12)
noncomputable def r2 : S → SR := sAsg (gN 10) (eIf (cOr (cVal (eBin gGt (eV 9) (eC (.int 0)))) (cVal (eBin gEq (eV 4) (eTup aNil)))) cF (eLst aNil))
noncomputable def r3 : S → SR := sRet (eFz (rCall 2 (m__law_alike 3) (aCons (eFz (rCall 2 m_least_coil (aCons (eV 4) (aCons (eV 9) aNil)))) (aCons (eIf (cVal (eBin gNe (eV 10) (eLst aNil))) (eBin gIx2 (eV 10) (eC (.int 0))) (eC .non)) aNil))))
theorem filter_iD (L : List Int) (q : Int → Bool) : (iD L).filter (fun d => match d with | .int z => q z | _ => false) = iD (L.filter q) := by
  rw [iD, List.filter_map]; rfl
theorem r23_run {ns : List Int} {a b c many : Int} {ps : List Int} {x2 x3 x5 x6 x7 x8 x10 : Sl} (h : Ok 12 ps) (hm : 0 ≤ many ∧ many ≤ 4) :
    ∃ s', (sSeq r2 r3) (lw ns a b c x2 x3 (.fz (.tup (iD ps))) x5 x6 x7 x8 (.fz (.int many)) x10) = .rt (.d (.bl true)) s' := by
  generalize hM : ps.max?.getD 1 = M
  have hM1 : 1 ≤ M ∧ M ≤ 12 ∧ (∀ p ∈ ps, p ≤ M) ∧ (1 :: ps).max? = some M := by
    cases q : ps.max? with
    | none =>
      have := List.max?_eq_none_iff.mp q
      subst this
      rw [q] at hM
      have : M = 1 := hM.symm
      subst this
      exact ⟨by decide, by decide, fun p hp => (by cases hp), rfl⟩
    | some m =>
      rw [q] at hM
      have : m = M := hM
      subst this
      obtain ⟨m1, m2⟩ := List.max?_eq_some_iff.mp q
      have := h.p m m1
      refine ⟨this.1, this.2, m2, List.max?_eq_some_iff.mpr ⟨List.mem_cons_of_mem _ m1, fun x hx => ?_⟩⟩
      rcases List.mem_cons.mp hx with rfl | hx
      · exact this.1
      · exact m2 x hx
  obtain ⟨M1, M12, Mp, Mx⟩ := hM1
  have hok : ∀ c ∈ rngI M 100, Ok c ps := fun c hc => by
    obtain ⟨h1, h2⟩ := mem_rngI.mp hc
    exact h.up (by omega) (by omega) fun p hp => Int.le_trans (Mp p hp) h1
  have hex : ∀ c, ∃ k, c ∈ rngI M 100 → m_fewest_coils [.int c, .tup (iD ps)] = .ok (.d (.int k)) ∧ m__law_coils [.int c, .tup (iD ps)] = .ok (.d (.int k)) ∧ Least c ps k := fun c => by
    by_cases hc : c ∈ rngI M 100
    · obtain ⟨k, e1, l1⟩ := p_fewest (hok c hc)
      obtain ⟨k', e2, l2⟩ := p_coils (hok c hc)
      have := l1.eq l2
      subst this
      exact ⟨k, fun _ => ⟨e1, e2, l1⟩⟩
    · exact ⟨0, fun q => absurd q hc⟩
  obtain ⟨kf, hkf⟩ : ∃ kf : Int → Int, ∀ c ∈ rngI M 100, m_fewest_coils [.int c, .tup (iD ps)] = .ok (.d (.int (kf c))) ∧ m__law_coils [.int c, .tup (iD ps)] = .ok (.d (.int (kf c))) ∧ Least c ps (kf c) := ⟨fun c => (hex c).choose, fun c hc => (hex c).choose_spec hc⟩
  have hleast := p_least (many := many) (h.up (c := 99) (by decide) (by decide) fun p hp => by have := (h.p p hp).2; omega) ⟨hm.1, by omega⟩ hM ⟨by omega, by omega⟩ fun c hc => (hkf c hc).1
  -- the sizes that do
  obtain ⟨can, hcan, hr2⟩ : ∃ can : List Int, can.head? = ((rngI M 100).filter fun c => decide (kf c ≤ many)).head? ∧ r2 (lw ns a b c x2 x3 (.fz (.tup (iD ps))) x5 x6 x7 x8 (.fz (.int many)) x10) = .nx (lw ns a b c x2 x3 (.fz (.tup (iD ps))) x5 x6 x7 x8 (.fz (.int many)) (.fz (.lst (iD can)))) := by
    have hgp : gEq [.tup (iD ps), .tup []] = some (.bl (decide (ps = []))) := gEq_tI ps []
    by_cases hq : many > 0 ∨ ps = []
    · refine ⟨(rngI M 100).filter fun c => decide (kf c ≤ many), rfl, ?_⟩
      have hF : cF (lw ns a b c x2 x3 (.fz (.tup (iD ps))) x5 x6 x7 x8 (.fz (.int many)) x10) = .ok (.d (.lst (iD ((rngI M 100).filter fun c => decide (kf c ≤ many))))) (lw ns a b c x2 x3 (.fz (.tup (iD ps))) x5 x6 x7 x8 (.fz (.int many)) x10) := by
        have hmx : gMaxT [.tup (.int 1 :: iD ps)] = some (.int M) := by
          have : allInt (.int 1 :: iD ps) = some (1 :: ps) := allInt_iD (1 :: ps)
          simp only [gMaxT, this, Option.bind_some, Mx, Option.map_some]
        have hadd : gAdd [.tup [.int 1], .tup (iD ps)] = some (.tup (.int 1 :: iD ps)) := by
          rw [g_addT, if_pos (by have := h.n; simp only [List.length_map, List.length_singleton]; unfold lim; omega)]; rfl
        have hi : iOf gRng2 (aCons (eApp gMaxT (aCons (eBin gAdd (eTup (aCons (eC (.int 1)) aNil)) (eV 4)) aNil)) (aCons (eC (.int 100)) aNil)) (lw ns a b c x2 x3 (.fz (.tup (iD ps))) x5 x6 x7 x8 (.fz (.int many)) x10) = .ok (iD (rngI M 100)) (lw ns a b c x2 x3 (.fz (.tup (iD ps))) x5 x6 x7 x8 (.fz (.int many)) x10) := by
          rw [← rng_iD]
          refine iOf_ok (ws := [.d (.int M), .d (.int 100)]) ?_ (g_rng2 (by omega) (by omega) (by decide) (by decide))
          generalize iD ps = PP at *
          simp [-g_addT, lw, hadd, hmx]
        have hlen : (iD (rngI M 100)).length ≤ lim := by simp only [List.length_map, rngI, List.length_range]; unfold lim; omega
        have hL := lcD_filter (vs := [12]) (t := gN 12) (c := cVal (eBin gLe (eFz (rCall 2 m__law_coils (aCons (eV 12) (aCons (eV 4) aNil)))) (eV 9))) (f := eV 12) (s0 := lw ns a b c x2 x3 (.fz (.tup (iD ps))) x5 x6 x7 x8 (.fz (.int many)) x10) (fun d => match d with | .int z => decide (kf z ≤ many) | _ => false) (ds := iD (rngI M 100)) fun d hd => by
          obtain ⟨z, hz, rfl⟩ := mem_iD hd
          have := (hkf z hz).2.1
          exact ⟨(lw ns a b c x2 x3 (.fz (.tup (iD ps))) x5 x6 x7 x8 (.fz (.int many)) x10).set 12 (.fz (.int z)), by simp [lw], by simp [lw, this], by simp [lw], rfl, rfl⟩
        rw [filter_iD] at hL
        unfold cF eLcD eLc
        rw [hi, PD.R.bind_ok, if_pos ⟨rfl, hlen⟩]
        have hcl : clr [12] (lw ns a b c x2 x3 (.fz (.tup (iD ps))) x5 x6 x7 x8 (.fz (.int many)) x10) = lw ns a b c x2 x3 (.fz (.tup (iD ps))) x5 x6 x7 x8 (.fz (.int many)) x10 := rfl
        rw [hcl, hL]
        rfl
      have ht : cOr (cVal (eBin gGt (eV 9) (eC (.int 0)))) (cVal (eBin gEq (eV 4) (eTup aNil))) (lw ns a b c x2 x3 (.fz (.tup (iD ps))) x5 x6 x7 x8 (.fz (.int many)) x10) = .ok true (lw ns a b c x2 x3 (.fz (.tup (iD ps))) x5 x6 x7 x8 (.fz (.int many)) x10) := by
        generalize iD ps = PP at *
        by_cases q : (0 : Int) < many
        · simp [lw, q]
        · have : ps = [] := hq.resolve_left q
          simp [lw, q, hgp, this]
      rw [r2, x_asg, x_eIf, ht, PD.R.bind_ok, if_pos rfl, hF, sBind_ok]
      rfl
    · have q1 : ¬ (0 : Int) < many := fun z => hq (.inl z)
      have q2 : ps ≠ [] := fun z => hq (.inr z)
      refine ⟨[], ?_, ?_⟩
      · have : (rngI M 100).filter (fun c => decide (kf c ≤ many)) = [] := by
          refine List.filter_eq_nil_iff.mpr fun c hc => ?_
          have := least_pos (hkf c hc).2.2 q2
          simp; omega
        rw [this]
      · have ht : cOr (cVal (eBin gGt (eV 9) (eC (.int 0)))) (cVal (eBin gEq (eV 4) (eTup aNil))) (lw ns a b c x2 x3 (.fz (.tup (iD ps))) x5 x6 x7 x8 (.fz (.int many)) x10) = .ok false (lw ns a b c x2 x3 (.fz (.tup (iD ps))) x5 x6 x7 x8 (.fz (.int many)) x10) := by
          generalize iD ps = PP at *
          simp [lw, q1, hgp, q2]
        rw [r2, x_asg, x_eIf, ht, PD.R.bind_ok, if_neg (by decide)]
        rfl
  refine ⟨lw ns a b c x2 x3 (.fz (.tup (iD ps))) x5 x6 x7 x8 (.fz (.int many)) (.fz (.lst (iD can))), ?_⟩
  rw [x_seq, hr2]
  simp only []
  have hne : gNe [.lst (iD can), .lst []] = some (.bl (!decide (can = []))) := by
    have := eqvAll_int can []
    simp only [gNe, dok_lI can, show dok (.lst []) = some (.list []) from dok_lI [], Option.bind_some, PyData.eqv]
    rw [show ([] : List PyData) = ([] : List Int).map .int from rfl, this]
  rw [← hcan] at hleast
  cases can with
  | nil =>
    have hal := p_alikeN
    simp only [decide_true, Bool.not_true, List.map_nil] at hne
    simp only [List.head?_nil, outD] at hleast
    generalize iD ps = PP at *
    simp [r3, lw, hleast, hne, hal]
  | cons z zs =>
    have hal := p_alikeI z
    have hat : atI (iD (z :: zs)) 0 = some (.int z) := atI_nat (i := 0) (by simp)
    simp only [reduceCtorEq, decide_false, Bool.not_false] at hne
    simp only [List.head?_cons, outD] at hleast
    generalize iD (z :: zs) = ZZ at *
    generalize iD ps = PP at *
    simp [r3, lw, hleast, hne, hat, hal]
end PD

set_option linter.all false
set_option maxRecDepth 100000
set_option maxHeartbeats 2000000
namespace PD
open PySem PySem.Spec PyProof.Rows L2 K13
theorem plain_law (ns : List Int) (hl : ns.length ≤ 63) (hb : ∀ z ∈ ns, Builtin.Int.intBits z ≤ 1048576) : m_law [.scr ns] = .ok (.d (.bl true)) := by
  obtain ⟨s', e, h'⟩ := forD_inv (t := gN 2) (f := turnB) (ds := rngD 0 4) (k := 0) (s := lw ns 0 6131 0 .no .no .no .no .no .no .no .no .no)
    (fun i s => ∃ a b c x2 x3 x4 x5 x6 x7 x8 x9 x10, s = lw ns a b c x2 x3 x4 x5 x6 x7 x8 x9 x10 ∧ RowI a b) ⟨0, 6131, 0, .no, .no, .no, .no, .no, .no, .no, .no, .no, rfl, by decide, by decide, by decide⟩ fun i d s hd ⟨a, b, c, x2, x3, x4, x5, x6, x7, x8, x9, x10, e, hI⟩ => by
      subst e
      obtain ⟨a', b', c', y3, y4, y5, y6, y7, y8, e, hI'⟩ := turn_run (ns := ns) (c := c) (x2 := .fz d) (x3 := x3) (x4 := x4) (x5 := x5) (x6 := x6) (x7 := x7) (x8 := x8) (x9 := x9) (x10 := x10) hI
      exact ⟨lw ns a b c (.fz d) x3 x4 x5 x6 x7 x8 x9 x10, by simp [lw], _, e, a', b', c', _, y3, y4, y5, y6, y7, y8, x9, x10, rfl, hI'⟩
  obtain ⟨a, b, c, x2, x3, x4, x5, x6, x7, x8, x9, x10, rfl, hI⟩ := h'
  obtain ⟨ps, many, a1, b1, c1, e1, h, hm⟩ := r1_run (ns := ns) (c := c) (x2 := x2) (x3 := x3) (x4 := x4) (x5 := x5) (x6 := x6) (x7 := x7) (x8 := x8) (x9 := x9) (x10 := x10) hI
  obtain ⟨s2, e2⟩ := r23_run (ns := ns) (a := a1) (b := b1) (c := c1) (x2 := x2) (x3 := x3) (x5 := x5) (x6 := x6) (x7 := x7) (x8 := x8) (x10 := x10) h hm
  have e0 : sOwn 1 (rLst (aCons (eV 0) (aCons (eC (.int 0)) (aCons (eC (.int 6131)) (aCons (eC (.int 0)) aNil))))) [.fz (.scr ns), .no, .no, .no, .no, .no, .no, .no, .no, .no, .no, .no, .no] = .nx (lw ns 0 6131 0 .no .no .no .no .no .no .no .no .no) := by simp [lw, rowD]
  have hi : iOf gRng1 (aCons (eC (.int 4)) aNil) (lw ns 0 6131 0 .no .no .no .no .no .no .no .no .no) = .ok (rngD 0 4) (lw ns 0 6131 0 .no .no .no .no .no .no .no .no .no) := iOf_ok (ws := [.d (.int 4)]) rfl (g_rng1 (by decide) (by decide))
  have eo : b_law = sSeq (sOwn 1 (rLst (aCons (eV 0) (aCons (eC (.int 0)) (aCons (eC (.int 6131)) (aCons (eC (.int 0)) aNil)))))) (sSeq (sFor (gN 2) (iOf gRng1 (aCons (eC (.int 4)) aNil)) turnB) (sSeq r1 (sSeq r2 r3))) := rfl
  unfold m_law runP
  rw [eo]
  show (match (sSeq _ (sSeq _ (sSeq _ _))) [.fz (.scr ns), .no, .no, .no, .no, .no, .no, .no, .no, .no, .no, .no, .no] with
    | .nx _ => FR.ok (.d .non) | .rt r _ => .ok r | .er c ns ds _ => .er c ns ds | _ => .st) = _
  rw [x_seq, e0]
  simp only []
  rw [x_seq, x_for, hi, sBind_ok, e]
  simp only []
  rw [x_seq, e1]
  simp only []
  rw [e2]
end PD

set_option linter.all false
set_option maxRecDepth 100000
set_option maxHeartbeats 2000000
namespace PD
open PySem PySem.Spec PyProof.Rows L2 LamX NdefX
set_option autoImplicit true in
theorem law_at {l : PySem.W.OpenLaw} {w : World} {K : PySem.W.Frag} {h : Heap} {mg : Str → Option Value} {fa : Addr} (X : K.In h) (G : h.Ns mainGlobals mg) (hfa : mg "law" = some (.ref fa))
    (z_all : PySem.W.nsIn K mainGlobals "all" = some none)
    (z_bool : PySem.W.nsIn K mainGlobals "bool" = some none)
    (z_enumerate : PySem.W.nsIn K mainGlobals "enumerate" = some none)
    (z_int : PySem.W.nsIn K mainGlobals "int" = some none)
    (z_isinstance : PySem.W.nsIn K mainGlobals "isinstance" = some none)
    (z_len : PySem.W.nsIn K mainGlobals "len" = some none)
    (z_list : PySem.W.nsIn K mainGlobals "list" = some none)
    (z_max : PySem.W.nsIn K mainGlobals "max" = some none)
    (z_min : PySem.W.nsIn K mainGlobals "min" = some none)
    (z_range : PySem.W.nsIn K mainGlobals "range" = some none)
    (z_sorted : PySem.W.nsIn K mainGlobals "sorted" = some none)
    (z_str : PySem.W.nsIn K mainGlobals "str" = some none)
    (z_sum : PySem.W.nsIn K mainGlobals "sum" = some none)
    (z_tuple : PySem.W.nsIn K mainGlobals "tuple" = some none)
    (c_MOST_COIL : PySem.W.nsIn K mainGlobals "MOST_COIL" = some (some (.int 99 t_MOST_COIL)))
    (c_MOST_PIECES : PySem.W.nsIn K mainGlobals "MOST_PIECES" = some (some (.int 10 t_MOST_PIECES)))
    (a_is_whole : PySem.W.nsIn K mainGlobals "is_whole" = some (some (.ref A_is_whole)))
    (l_is_whole : K.lookup A_is_whole = some ⟨oc_is_whole, od_is_whole, .func (PySem.W.fnOf "is_whole" "is_whole" (defArgs s_is_whole) (defBody s_is_whole) (defScope s_is_whole) .none kV_is_whole dc_is_whole pm_is_whole an_is_whole (cd_is_whole) ct_is_whole), sl_is_whole⟩)
    (e_is_whole : PySem.W.codeIn K (cd_is_whole) "is_whole" = true)
    (k_is_whole : PySem.W.keepIn K (.ref A_is_whole) = true)
    (a_first_wrong : PySem.W.nsIn K mainGlobals "first_wrong" = some (some (.ref A_first_wrong)))
    (l_first_wrong : K.lookup A_first_wrong = some ⟨oc_first_wrong, od_first_wrong, .func (PySem.W.fnOf "first_wrong" "first_wrong" (defArgs s_first_wrong) (defBody s_first_wrong) (defScope s_first_wrong) .none kV_first_wrong dc_first_wrong pm_first_wrong an_first_wrong (cd_first_wrong) ct_first_wrong), sl_first_wrong⟩)
    (e_first_wrong : PySem.W.codeIn K (cd_first_wrong) "first_wrong" = true)
    (k_first_wrong : PySem.W.keepIn K (.ref A_first_wrong) = true)
    (a_weights_of : PySem.W.nsIn K mainGlobals "weights_of" = some (some (.ref A_weights_of)))
    (l_weights_of : K.lookup A_weights_of = some ⟨oc_weights_of, od_weights_of, .func (PySem.W.fnOf "weights_of" "weights_of" (defArgs s_weights_of) (defBody s_weights_of) (defScope s_weights_of) .none kV_weights_of dc_weights_of pm_weights_of an_weights_of (cd_weights_of) ct_weights_of), sl_weights_of⟩)
    (e_weights_of : PySem.W.codeIn K (cd_weights_of) "weights_of" = true)
    (k_weights_of : PySem.W.keepIn K (.ref A_weights_of) = true)
    (a__law_taken : PySem.W.nsIn K mainGlobals "_law_taken" = some (some (.ref A__law_taken)))
    (l__law_taken : K.lookup A__law_taken = some ⟨oc__law_taken, od__law_taken, .func (PySem.W.fnOf "_law_taken" "_law_taken" (defArgs s__law_taken) (defBody s__law_taken) (defScope s__law_taken) .none kV__law_taken dc__law_taken pm__law_taken an__law_taken (cd__law_taken) ct__law_taken), sl__law_taken⟩)
    (e__law_taken : PySem.W.codeIn K (cd__law_taken) "_law_taken" = true)
    (k__law_taken : PySem.W.keepIn K (.ref A__law_taken) = true)
    (a__law_coils : PySem.W.nsIn K mainGlobals "_law_coils" = some (some (.ref A__law_coils)))
    (l__law_coils : K.lookup A__law_coils = some ⟨oc__law_coils, od__law_coils, .func (PySem.W.fnOf "_law_coils" "_law_coils" (defArgs s__law_coils) (defBody s__law_coils) (defScope s__law_coils) .none kV__law_coils dc__law_coils pm__law_coils an__law_coils (cd__law_coils) ct__law_coils), sl__law_coils⟩)
    (e__law_coils : PySem.W.codeIn K (cd__law_coils) "_law_coils" = true)
    (k__law_coils : PySem.W.keepIn K (.ref A__law_coils) = true)
    (a_is_within : PySem.W.nsIn K mainGlobals "is_within" = some (some (.ref A_is_within)))
    (l_is_within : K.lookup A_is_within = some ⟨oc_is_within, od_is_within, .func (PySem.W.fnOf "is_within" "is_within" (defArgs s_is_within) (defBody s_is_within) (defScope s_is_within) .none kV_is_within dc_is_within pm_is_within an_is_within (cd_is_within) ct_is_within), sl_is_within⟩)
    (e_is_within : PySem.W.codeIn K (cd_is_within) "is_within" = true)
    (k_is_within : PySem.W.keepIn K (.ref A_is_within) = true)
    (a_states : PySem.W.nsIn K mainGlobals "states" = some (some (.ref A_states)))
    (l_states : K.lookup A_states = some ⟨oc_states, od_states, .func (PySem.W.fnOf "states" "states" (defArgs s_states) (defBody s_states) (defScope s_states) .none kV_states dc_states pm_states an_states (cd_states) ct_states), sl_states⟩)
    (e_states : PySem.W.codeIn K (cd_states) "states" = true)
    (k_states : PySem.W.keepIn K (.ref A_states) = true)
    (a_last_cut : PySem.W.nsIn K mainGlobals "last_cut" = some (some (.ref A_last_cut)))
    (l_last_cut : K.lookup A_last_cut = some ⟨oc_last_cut, od_last_cut, .func (PySem.W.fnOf "last_cut" "last_cut" (defArgs s_last_cut) (defBody s_last_cut) (defScope s_last_cut) .none kV_last_cut dc_last_cut pm_last_cut an_last_cut (cd_last_cut) ct_last_cut), sl_last_cut⟩)
    (e_last_cut : PySem.W.codeIn K (cd_last_cut) "last_cut" = true)
    (k_last_cut : PySem.W.keepIn K (.ref A_last_cut) = true)
    (a__law_pick : PySem.W.nsIn K mainGlobals "_law_pick" = some (some (.ref A__law_pick)))
    (l__law_pick : K.lookup A__law_pick = some ⟨oc__law_pick, od__law_pick, .func (PySem.W.fnOf "_law_pick" "_law_pick" (defArgs s__law_pick) (defBody s__law_pick) (defScope s__law_pick) .none kV__law_pick dc__law_pick pm__law_pick an__law_pick (cd__law_pick) ct__law_pick), sl__law_pick⟩)
    (e__law_pick : PySem.W.codeIn K (cd__law_pick) "_law_pick" = true)
    (k__law_pick : PySem.W.keepIn K (.ref A__law_pick) = true)
    (a__law_pieces : PySem.W.nsIn K mainGlobals "_law_pieces" = some (some (.ref A__law_pieces)))
    (l__law_pieces : K.lookup A__law_pieces = some ⟨oc__law_pieces, od__law_pieces, .func (PySem.W.fnOf "_law_pieces" "_law_pieces" (defArgs s__law_pieces) (defBody s__law_pieces) (defScope s__law_pieces) .none kV__law_pieces dc__law_pieces pm__law_pieces an__law_pieces (cd__law_pieces) ct__law_pieces), sl__law_pieces⟩)
    (e__law_pieces : PySem.W.codeIn K (cd__law_pieces) "_law_pieces" = true)
    (k__law_pieces : PySem.W.keepIn K (.ref A__law_pieces) = true)
    (a__law_alike : PySem.W.nsIn K mainGlobals "_law_alike" = some (some (.ref A__law_alike)))
    (l__law_alike : K.lookup A__law_alike = some ⟨oc__law_alike, od__law_alike, .func (PySem.W.fnOf "_law_alike" "_law_alike" (defArgs s__law_alike) (defBody s__law_alike) (defScope s__law_alike) .none kV__law_alike dc__law_alike pm__law_alike an__law_alike (cd__law_alike) ct__law_alike), sl__law_alike⟩)
    (e__law_alike : PySem.W.codeIn K (cd__law_alike) "_law_alike" = true)
    (k__law_alike : PySem.W.keepIn K (.ref A__law_alike) = true)
    (a_require_pieces : PySem.W.nsIn K mainGlobals "require_pieces" = some (some (.ref A_require_pieces)))
    (l_require_pieces : K.lookup A_require_pieces = some ⟨oc_require_pieces, od_require_pieces, .func (PySem.W.fnOf "require_pieces" "require_pieces" (defArgs s_require_pieces) (defBody s_require_pieces) (defScope s_require_pieces) .none kV_require_pieces dc_require_pieces pm_require_pieces an_require_pieces (.ref cc_require_pieces) ct_require_pieces), sl_require_pieces⟩)
    (e_require_pieces : PySem.W.codeIn K (.ref cc_require_pieces) "require_pieces" = true)
    (k_require_pieces : PySem.W.keepIn K (.ref A_require_pieces) = true)
    (lc_require_pieces : K.lookup cc_require_pieces = some ⟨.type "code", odc_require_pieces, .fields vsc_require_pieces, slc_require_pieces⟩)
    (e11_require_pieces : (vsc_require_pieces[11]? : Option Value) = some (.ref P_require_pieces))
    (e18_require_pieces : vsc_require_pieces.getD 18 .none = .str f18_require_pieces t18_require_pieces)
    (e7_require_pieces : vsc_require_pieces.getD 7 .none = .int f7_require_pieces t7_require_pieces)
    (e9_require_pieces : vsc_require_pieces.getD 9 .none = .bool f9_require_pieces)
    (e10_require_pieces : vsc_require_pieces.getD 10 .none = .int f10_require_pieces t10_require_pieces)
    (ne_require_pieces : cc_require_pieces ≠ P_require_pieces)
    (lp_require_pieces : K.lookup P_require_pieces = none)
    (tp_require_pieces : h.get? P_require_pieces = some { cls := .none, data := .fields #[] })
    (a_fewest_coils : PySem.W.nsIn K mainGlobals "fewest_coils" = some (some (.ref A_fewest_coils)))
    (l_fewest_coils : K.lookup A_fewest_coils = some ⟨oc_fewest_coils, od_fewest_coils, .func (PySem.W.fnOf "fewest_coils" "fewest_coils" (defArgs s_fewest_coils) (defBody s_fewest_coils) (defScope s_fewest_coils) .none kV_fewest_coils dc_fewest_coils pm_fewest_coils an_fewest_coils (cd_fewest_coils) ct_fewest_coils), sl_fewest_coils⟩)
    (e_fewest_coils : PySem.W.codeIn K (cd_fewest_coils) "fewest_coils" = true)
    (k_fewest_coils : PySem.W.keepIn K (.ref A_fewest_coils) = true)
    (a_cutting : PySem.W.nsIn K mainGlobals "cutting" = some (some (.ref A_cutting)))
    (l_cutting : K.lookup A_cutting = some ⟨oc_cutting, od_cutting, .func (PySem.W.fnOf "cutting" "cutting" (defArgs s_cutting) (defBody s_cutting) (defScope s_cutting) .none kV_cutting dc_cutting pm_cutting an_cutting (cd_cutting) ct_cutting), sl_cutting⟩)
    (e_cutting : PySem.W.codeIn K (cd_cutting) "cutting" = true)
    (k_cutting : PySem.W.keepIn K (.ref A_cutting) = true)
    (a_is_cutting : PySem.W.nsIn K mainGlobals "is_cutting" = some (some (.ref A_is_cutting)))
    (l_is_cutting : K.lookup A_is_cutting = some ⟨oc_is_cutting, od_is_cutting, .func (PySem.W.fnOf "is_cutting" "is_cutting" (defArgs s_is_cutting) (defBody s_is_cutting) (defScope s_is_cutting) .none kV_is_cutting dc_is_cutting pm_is_cutting an_is_cutting (cd_is_cutting) ct_is_cutting), sl_is_cutting⟩)
    (e_is_cutting : PySem.W.codeIn K (cd_is_cutting) "is_cutting" = true)
    (k_is_cutting : PySem.W.keepIn K (.ref A_is_cutting) = true)
    (a_waste : PySem.W.nsIn K mainGlobals "waste" = some (some (.ref A_waste)))
    (l_waste : K.lookup A_waste = some ⟨oc_waste, od_waste, .func (PySem.W.fnOf "waste" "waste" (defArgs s_waste) (defBody s_waste) (defScope s_waste) .none kV_waste dc_waste pm_waste an_waste (cd_waste) ct_waste), sl_waste⟩)
    (e_waste : PySem.W.codeIn K (cd_waste) "waste" = true)
    (k_waste : PySem.W.keepIn K (.ref A_waste) = true)
    (a_least_coil : PySem.W.nsIn K mainGlobals "least_coil" = some (some (.ref A_least_coil)))
    (l_least_coil : K.lookup A_least_coil = some ⟨oc_least_coil, od_least_coil, .func (PySem.W.fnOf "least_coil" "least_coil" (defArgs s_least_coil) (defBody s_least_coil) (defScope s_least_coil) .none kV_least_coil dc_least_coil pm_least_coil an_least_coil (cd_least_coil) ct_least_coil), sl_least_coil⟩)
    (e_least_coil : PySem.W.codeIn K (cd_least_coil) "least_coil" = true)
    (k_least_coil : PySem.W.keepIn K (.ref A_least_coil) = true)
    (a_law : PySem.W.nsIn K mainGlobals "law" = some (some (.ref A_law)))
    (l_law : K.lookup A_law = some ⟨oc_law, od_law, .func (PySem.W.fnOf "law" "law" (defArgs s_law) (defBody s_law) (defScope s_law) .none kV_law dc_law pm_law an_law (cd_law) ct_law), sl_law⟩)
    (e_law : PySem.W.codeIn K (cd_law) "law" = true)
    (k_law : PySem.W.keepIn K (.ref A_law) = true)
    (plain : ∀ ns : List Int, ns.length ≤ 63 → (∀ z ∈ ns, Builtin.Int.intBits z ≤ 1048576) → m_law [.scr ns] = .ok (.d (.bl true))) :
    LamX.LawAtS l w K (L2.CX l.prog w) 8 63 "script" mg fa h := by
  have e := hfa.symm.trans (PySem.W.mg_of X G a_law)
  cases e
  have F_is_whole := fun_mk (st := s_is_whole) l_is_whole e_is_whole k_is_whole
  have B_is_whole := F_is_whole.binds (ps := ["value"]) fun _ _ _ _ _ _ us hl => match us, hl with | [_], _ => rfl
  have F_first_wrong := fun_mk (st := s_first_wrong) l_first_wrong e_first_wrong k_first_wrong
  have B_first_wrong := F_first_wrong.binds (ps := ["value", "least", "most", "judge"]) fun _ _ _ _ _ _ us hl => match us, hl with | [_, _, _, _], _ => rfl
  have F_weights_of := fun_mk (st := s_weights_of) l_weights_of e_weights_of k_weights_of
  have B_weights_of := F_weights_of.binds (ps := ["pieces"]) fun _ _ _ _ _ _ us hl => match us, hl with | [_], _ => rfl
  have F__law_taken := fun_mk (st := s__law_taken) l__law_taken e__law_taken k__law_taken
  have B__law_taken := F__law_taken.binds (ps := ["row", "many"]) fun _ _ _ _ _ _ us hl => match us, hl with | [_, _], _ => rfl
  have F__law_coils := fun_mk (st := s__law_coils) l__law_coils e__law_coils k__law_coils
  have B__law_coils := F__law_coils.binds (ps := ["coil", "pieces"]) fun _ _ _ _ _ _ us hl => match us, hl with | [_, _], _ => rfl
  have F_is_within := fun_mk (st := s_is_within) l_is_within e_is_within k_is_within
  have B_is_within := F_is_within.binds (ps := ["value", "least", "most"]) fun _ _ _ _ _ _ us hl => match us, hl with | [_, _, _], _ => rfl
  have F_states := fun_mk (st := s_states) l_states e_states k_states
  have B_states := F_states.binds (ps := ["coil", "pieces"]) fun _ _ _ _ _ _ us hl => match us, hl with | [_, _], _ => rfl
  have F_last_cut := fun_mk (st := s_last_cut) l_last_cut e_last_cut k_last_cut
  have B_last_cut := F_last_cut.binds (ps := ["coil", "pieces", "best", "chosen"]) fun _ _ _ _ _ _ us hl => match us, hl with | [_, _, _, _], _ => rfl
  have F__law_pick := fun_mk (st := s__law_pick) l__law_pick e__law_pick k__law_pick
  have B__law_pick := F__law_pick.binds (ps := ["row", "things"]) fun _ _ _ _ _ _ us hl => match us, hl with | [_, _], _ => rfl
  have F__law_pieces := fun_mk (st := s__law_pieces) l__law_pieces e__law_pieces k__law_pieces
  have B__law_pieces := F__law_pieces.binds (ps := ["row", "coil", "most"]) fun _ _ _ _ _ _ us hl => match us, hl with | [_, _, _], _ => rfl
  have F__law_alike := fun_mk (st := s__law_alike) l__law_alike e__law_alike k__law_alike
  have B__law_alike := F__law_alike.binds (ps := ["found", "due"]) fun _ _ _ _ _ _ us hl => match us, hl with | [_, _], _ => rfl
  have F_require_pieces := fun_mk (st := s_require_pieces) l_require_pieces e_require_pieces k_require_pieces
  have B_require_pieces := F_require_pieces.binds (ps := ["coil", "pieces"]) fun _ _ _ _ _ _ us hl => match us, hl with | [_, _], _ => rfl
  have F_fewest_coils := fun_mk (st := s_fewest_coils) l_fewest_coils e_fewest_coils k_fewest_coils
  have B_fewest_coils := F_fewest_coils.binds (ps := ["coil", "pieces"]) fun _ _ _ _ _ _ us hl => match us, hl with | [_, _], _ => rfl
  have F_cutting := fun_mk (st := s_cutting) l_cutting e_cutting k_cutting
  have B_cutting := F_cutting.binds (ps := ["coil", "pieces"]) fun _ _ _ _ _ _ us hl => match us, hl with | [_, _], _ => rfl
  have F_is_cutting := fun_mk (st := s_is_cutting) l_is_cutting e_is_cutting k_is_cutting
  have B_is_cutting := F_is_cutting.binds (ps := ["coil", "pieces", "value"]) fun _ _ _ _ _ _ us hl => match us, hl with | [_, _, _], _ => rfl
  have F_waste := fun_mk (st := s_waste) l_waste e_waste k_waste
  have B_waste := F_waste.binds (ps := ["coil", "pieces", "value"]) fun _ _ _ _ _ _ us hl => match us, hl with | [_, _, _], _ => rfl
  have F_least_coil := fun_mk (st := s_least_coil) l_least_coil e_least_coil k_least_coil
  have B_least_coil := F_least_coil.binds (ps := ["pieces", "many"]) fun _ _ _ _ _ _ us hl => match us, hl with | [_, _], _ => rfl
  have F_law := fun_mk (st := s_law) l_law e_law k_law
  have B_law := F_law.binds (ps := ["script"]) fun _ _ _ _ _ _ us hl => match us, hl with | [_], _ => rfl
  refine ⟨PySem.W.fnOf "law" "law" (defArgs s_law) (defBody s_law) (defScope s_law) .none kV_law dc_law pm_law an_law (cd_law) ct_law, [(cc_require_pieces, P_require_pieces)], spP ⟨K, mg, [(P_require_pieces, ((envOfC "require_pieces" (defScope s_require_pieces) 0 0 .none).qual ++ "<lambda>"))]⟩ 1 m_law, ?_, ?_, ?_, fun s v => .of_eq rfl, ?_, fun base hK hG hT => ?_⟩
  · intro p hp
    simp only [List.mem_cons, List.not_mem_nil, or_false] at hp
    subst hp
    exact tp_require_pieces
  · intro p hp
    simp only [List.mem_cons, List.not_mem_nil, or_false] at hp
    subst hp
    exact lp_require_pieces
  · intro p hp
    simp only [List.mem_cons, List.not_mem_nil, or_false] at hp
    subst hp
    exact codeHd_mk X lc_require_pieces e11_require_pieces e18_require_pieces e7_require_pieces e9_require_pieces e10_require_pieces ne_require_pieces
  · intro H a ns hl hb ht hS
    exact sp_law (plain ns hl hb) (fun p hp => by
      simp only [List.mem_cons, List.not_mem_nil, or_false] at hp
      subst hp
      exact ht (cc_require_pieces, P_require_pieces) (by simp)) hS
  · let T : Top ⟨K, mg, [(P_require_pieces, ((envOfC "require_pieces" (defScope s_require_pieces) 0 0 .none).qual ++ "<lambda>"))]⟩ base := {
      z_all := PySem.W.mg_none_of X G z_all
      z_bool := PySem.W.mg_none_of X G z_bool
      z_enumerate := PySem.W.mg_none_of X G z_enumerate
      z_int := PySem.W.mg_none_of X G z_int
      z_isinstance := PySem.W.mg_none_of X G z_isinstance
      z_len := PySem.W.mg_none_of X G z_len
      z_list := PySem.W.mg_none_of X G z_list
      z_max := PySem.W.mg_none_of X G z_max
      z_min := PySem.W.mg_none_of X G z_min
      z_range := PySem.W.mg_none_of X G z_range
      z_sorted := PySem.W.mg_none_of X G z_sorted
      z_str := PySem.W.mg_none_of X G z_str
      z_sum := PySem.W.mg_none_of X G z_sum
      z_tuple := PySem.W.mg_none_of X G z_tuple
      t_MOST_COIL := t_MOST_COIL
      c_MOST_COIL := PySem.W.mg_of X G c_MOST_COIL
      t_MOST_PIECES := t_MOST_PIECES
      c_MOST_PIECES := PySem.W.mg_of X G c_MOST_PIECES
      a_is_whole := A_is_whole
      d_is_whole := _
      F_is_whole := F_is_whole
      b_is_whole := B_is_whole
      g_is_whole := PySem.W.mg_of X G a_is_whole
      a_first_wrong := A_first_wrong
      d_first_wrong := _
      F_first_wrong := F_first_wrong
      b_first_wrong := B_first_wrong
      g_first_wrong := PySem.W.mg_of X G a_first_wrong
      a_weights_of := A_weights_of
      d_weights_of := _
      F_weights_of := F_weights_of
      b_weights_of := B_weights_of
      g_weights_of := PySem.W.mg_of X G a_weights_of
      a__law_taken := A__law_taken
      d__law_taken := _
      F__law_taken := F__law_taken
      b__law_taken := B__law_taken
      g__law_taken := PySem.W.mg_of X G a__law_taken
      a__law_coils := A__law_coils
      d__law_coils := _
      F__law_coils := F__law_coils
      b__law_coils := B__law_coils
      g__law_coils := PySem.W.mg_of X G a__law_coils
      a_is_within := A_is_within
      d_is_within := _
      F_is_within := F_is_within
      b_is_within := B_is_within
      g_is_within := PySem.W.mg_of X G a_is_within
      a_states := A_states
      d_states := _
      F_states := F_states
      b_states := B_states
      g_states := PySem.W.mg_of X G a_states
      a_last_cut := A_last_cut
      d_last_cut := _
      F_last_cut := F_last_cut
      b_last_cut := B_last_cut
      g_last_cut := PySem.W.mg_of X G a_last_cut
      a__law_pick := A__law_pick
      d__law_pick := _
      F__law_pick := F__law_pick
      b__law_pick := B__law_pick
      g__law_pick := PySem.W.mg_of X G a__law_pick
      a__law_pieces := A__law_pieces
      d__law_pieces := _
      F__law_pieces := F__law_pieces
      b__law_pieces := B__law_pieces
      g__law_pieces := PySem.W.mg_of X G a__law_pieces
      a__law_alike := A__law_alike
      d__law_alike := _
      F__law_alike := F__law_alike
      b__law_alike := B__law_alike
      g__law_alike := PySem.W.mg_of X G a__law_alike
      a_require_pieces := A_require_pieces
      d_require_pieces := _
      F_require_pieces := F_require_pieces
      b_require_pieces := B_require_pieces
      g_require_pieces := PySem.W.mg_of X G a_require_pieces
      c_require_pieces := cc_require_pieces
      P_require_pieces := P_require_pieces
      h_require_pieces := rfl
      tb_require_pieces := hT (cc_require_pieces, P_require_pieces) (by simp)
      m_require_pieces := by simp
      a_fewest_coils := A_fewest_coils
      d_fewest_coils := _
      F_fewest_coils := F_fewest_coils
      b_fewest_coils := B_fewest_coils
      g_fewest_coils := PySem.W.mg_of X G a_fewest_coils
      a_cutting := A_cutting
      d_cutting := _
      F_cutting := F_cutting
      b_cutting := B_cutting
      g_cutting := PySem.W.mg_of X G a_cutting
      a_is_cutting := A_is_cutting
      d_is_cutting := _
      F_is_cutting := F_is_cutting
      b_is_cutting := B_is_cutting
      g_is_cutting := PySem.W.mg_of X G a_is_cutting
      a_waste := A_waste
      d_waste := _
      F_waste := F_waste
      b_waste := B_waste
      g_waste := PySem.W.mg_of X G a_waste
      a_least_coil := A_least_coil
      d_least_coil := _
      F_least_coil := F_least_coil
      b_least_coil := B_least_coil
      g_least_coil := PySem.W.mg_of X G a_least_coil
      a_law := A_law
      d_law := _
      F_law := F_law
      b_law := B_law
      g_law := PySem.W.mg_of X G a_law
      u_require_pieces := by
        intro p hp e
        simp only [List.mem_cons, List.mem_nil_iff, or_false, List.not_mem_nil] at hp
        first | (rcases hp with rfl; rfl)
    }
    exact ok_law T
end PD

set_option maxRecDepth 100000
open PySem PySem.W PyProof.Rows in
set_option maxRecDepth 100000 in
set_option maxHeartbeats 0 in
theorem PySem.Challenge.cw_ropeloft_k13_whole_fewest_coils_holds : PySem.Challenge.rw_ropeloft_k13_whole_fewest_coils.Holds := by
  w_on; o_law; k_head; (case hw => w_witness2)
  k_fill
  refine LamX.walk_ofTs (l := PySem.Challenge.rw_ropeloft_k13_whole_fewest_coils) (n := 63) (k := 8) (x := "script") (CX := fun w => L2.CX PySem.Challenge.rw_ropeloft_k13_whole_fewest_coils.prog w) rfl (by decide) rfl ⟨rfl, by decide, by decide⟩ (fun w h Y => PySem.W.km_in_of Y) ?F (fun w H s e s' => PD.cx_end)
  case F =>
    intro w mg fa h Y KX G hmg
    refine' PD.law_at KX G hmg ?z_all ?z_bool ?z_enumerate ?z_int ?z_isinstance ?z_len ?z_list ?z_max ?z_min ?z_range ?z_sorted ?z_str ?z_sum ?z_tuple ?c_MOST_COIL ?c_MOST_PIECES ?a_is_whole ?l_is_whole ?e_is_whole ?k_is_whole ?a_first_wrong ?l_first_wrong ?e_first_wrong ?k_first_wrong ?a_weights_of ?l_weights_of ?e_weights_of ?k_weights_of ?a__law_taken ?l__law_taken ?e__law_taken ?k__law_taken ?a__law_coils ?l__law_coils ?e__law_coils ?k__law_coils ?a_is_within ?l_is_within ?e_is_within ?k_is_within ?a_states ?l_states ?e_states ?k_states ?a_last_cut ?l_last_cut ?e_last_cut ?k_last_cut ?a__law_pick ?l__law_pick ?e__law_pick ?k__law_pick ?a__law_pieces ?l__law_pieces ?e__law_pieces ?k__law_pieces ?a__law_alike ?l__law_alike ?e__law_alike ?k__law_alike ?a_require_pieces ?l_require_pieces ?e_require_pieces ?k_require_pieces ?lc_require_pieces ?e11_require_pieces ?e18_require_pieces ?e7_require_pieces ?e9_require_pieces ?e10_require_pieces ?ne_require_pieces ?lp_require_pieces ?tp_require_pieces ?a_fewest_coils ?l_fewest_coils ?e_fewest_coils ?k_fewest_coils ?a_cutting ?l_cutting ?e_cutting ?k_cutting ?a_is_cutting ?l_is_cutting ?e_is_cutting ?k_is_cutting ?a_waste ?l_waste ?e_waste ?k_waste ?a_least_coil ?l_least_coil ?e_least_coil ?k_least_coil ?a_law ?l_law ?e_law ?k_law PD.plain_law
    (case z_all => k_is)
    (case z_bool => k_is)
    (case z_enumerate => k_is)
    (case z_int => k_is)
    (case z_isinstance => k_is)
    (case z_len => k_is)
    (case z_list => k_is)
    (case z_max => k_is)
    (case z_min => k_is)
    (case z_range => k_is)
    (case z_sorted => k_is)
    (case z_str => k_is)
    (case z_sum => k_is)
    (case z_tuple => k_is)
    (case c_MOST_COIL => k_is)
    (case c_MOST_PIECES => k_is)
    (case a_is_whole => k_is)
    (case l_is_whole => k_is)
    (case e_is_whole => k_is)
    (case k_is_whole => k_is)
    (case a_first_wrong => k_is)
    (case l_first_wrong => k_is)
    (case e_first_wrong => k_is)
    (case k_first_wrong => k_is)
    (case a_weights_of => k_is)
    (case l_weights_of => k_is)
    (case e_weights_of => k_is)
    (case k_weights_of => k_is)
    (case a__law_taken => k_is)
    (case l__law_taken => k_is)
    (case e__law_taken => k_is)
    (case k__law_taken => k_is)
    (case a__law_coils => k_is)
    (case l__law_coils => k_is)
    (case e__law_coils => k_is)
    (case k__law_coils => k_is)
    (case a_is_within => k_is)
    (case l_is_within => k_is)
    (case e_is_within => k_is)
    (case k_is_within => k_is)
    (case a_states => k_is)
    (case l_states => k_is)
    (case e_states => k_is)
    (case k_states => k_is)
    (case a_last_cut => k_is)
    (case l_last_cut => k_is)
    (case e_last_cut => k_is)
    (case k_last_cut => k_is)
    (case a__law_pick => k_is)
    (case l__law_pick => k_is)
    (case e__law_pick => k_is)
    (case k__law_pick => k_is)
    (case a__law_pieces => k_is)
    (case l__law_pieces => k_is)
    (case e__law_pieces => k_is)
    (case k__law_pieces => k_is)
    (case a__law_alike => k_is)
    (case l__law_alike => k_is)
    (case e__law_alike => k_is)
    (case k__law_alike => k_is)
    (case a_require_pieces => k_is)
    (case l_require_pieces => k_is)
    (case e_require_pieces => k_is)
    (case k_require_pieces => k_is)
    (case lc_require_pieces => k_is)
    (case e11_require_pieces => rfl)
    (case e18_require_pieces => rfl)
    (case e7_require_pieces => rfl)
    (case e9_require_pieces => rfl)
    (case e10_require_pieces => rfl)
    (case ne_require_pieces => decide)
    (case lp_require_pieces => rfl)
    (case tp_require_pieces => exact PySem.W.km_tabs_of Y _ (by decide))
    (case a_fewest_coils => k_is)
    (case l_fewest_coils => k_is)
    (case e_fewest_coils => k_is)
    (case k_fewest_coils => k_is)
    (case a_cutting => k_is)
    (case l_cutting => k_is)
    (case e_cutting => k_is)
    (case k_cutting => k_is)
    (case a_is_cutting => k_is)
    (case l_is_cutting => k_is)
    (case e_is_cutting => k_is)
    (case k_is_cutting => k_is)
    (case a_waste => k_is)
    (case l_waste => k_is)
    (case e_waste => k_is)
    (case k_waste => k_is)
    (case a_least_coil => k_is)
    (case l_least_coil => k_is)
    (case e_least_coil => k_is)
    (case k_least_coil => k_is)
    (case a_law => k_is)
    (case l_law => k_is)
    (case e_law => k_is)
    (case k_law => k_is)

