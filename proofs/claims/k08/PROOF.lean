import PyProof.Rows.All
import Wide.All
import OpenK.AllK
import Wide.FinOn
import HandS.ForMost
import HandS.ForExc
import HandS.Wide
import HandS.CallSlots
import HandS.Lambda
import HandS.OwnEq
import HandS.Property
import HandS.Base
import HandS.List
import KE.KUnpack
import HandS.Star
import HandS.Deep
import HandS.TupLe
import HandS.Comp
import HandS.IsInst
import HandS.Text
import HandS.Small
import HandS.More
import KE.KStateDown
import HandS.Words
import HandS.WordsExc
import HandS.Defaults
import HandS.Head0
import HandS.Head1
import HandS.Head2
import HandS.HeadEnd
import HandS.HeadHook1
import HandS.HeadHook2
import HandS.HeadHook3
import HandS.HeadHook4
import HandS.Style
import HandS.Ends
import HandS.EndBits
import HandS.Nested
import HandS.ExcInit
import HandS.ExcField
import HandS.ExcIs
import HandS.ExcOwn
import HandS.TryMany
import KE.KExcSuper
import HandS.HeadWalk
import PyProof.P3Eq
import HandS.Remove
import HandS.EndTab
import PyProof.ReprRoads
import PyProof.EqAt
import HandS.SetFor
import KE.DataCmp
import KE.KCallOwn
import HandS.FStr
import PyProof.Rows.RuleN_abs
import PySem.Challenge.RW_overfloors_k08_ratios
set_option Elab.async false
set_option linter.all false
set_option autoImplicit false
set_option maxRecDepth 100000
set_option maxHeartbeats 0
namespace Gm
open PySem L2

inductive D where
  | non | bl (b : Bool) | int (i : Int) | str (s : Str)
  | tup (ds : List D)
  | obj (c : Nat) (ds : List D)
  | ref (n : Nat)
  | fn (f : Nat)
deriving Inhabited
structure LF where
  qual : Str
  params : Arguments
  body : Expr
  scope : Scope
inductive Cell where
  | lst (ds : List D) | rol (ds : List D) | dic (kvs : List (Key × D)) | ins (c : Nat) (fs : List (Nat × D)) | dead
  /-- a lambda made by the frame with the cells γ -/
  | clo (j : Nat) (F : LF) (γ : List (Str × Addr))
deriving Inhabited
abbrev Store := List Cell
structure Exn where
  c : Nat
  ds : List D
inductive Res (α : Type) where
  | ok (a : α) (st : Store) | err (x : Exn) (st : Store) | stuck
abbrev Ev := List (Option D)
abbrev St := L2.St
structure Ls where
  nm : Nat → Str
  lay : Nat → List Nat
  atn : Nat → List Nat
  isC : Nat → Bool
  isF : Nat → Bool
  fps : Nat → List Str
  dfl : Nat → List (List D)
  meth : Nat → Nat → Option Nat
  prop : Nat → Nat → Option Nat
  sub : Nat → Nat → Bool
  ni : Nat → Nat → Bool
structure Lw extends Ls where
  cad : Nat → Addr
  fad : Nat → Addr
  fdt : Nat → FuncData
  tabs : List (Addr × Str) := []
structure Wd where
  fz : Hp
  io : List Addr
def Wd.le (W W' : Wd) : Prop := (∀ a o, W.fz a = some o → W'.fz a = some o) ∧ ∀ (n : Nat) (a : Addr), W.io[n]? = some a → W'.io[n]? = some a
theorem Wd.le.rfl' {W : Wd} : W.le W := ⟨fun _ _ h => h, fun _ _ h => h⟩
theorem Wd.le.trans {W W1 W2 : Wd} (a : W.le W1) (b : W1.le W2) : W.le W2 := ⟨fun c o h => b.1 c o (a.1 c o h), fun n c h => b.2 n c (a.2 n c h)⟩

section
variable (K : PySem.W.Frag) (L : Lw) (W : Wd)
mutual
def Rl : D → V → Prop
  | .non, v => v = .non
  | .bl b, v => v = .bl b
  | .int i, v => v = .int i
  | .str s, v => v = .str s
  | .tup ds, v => ∃ a vs, v = .ref a ∧ SqT K W.fz a vs ∧ Rls ds vs
  | .obj c ds, v => ∃ a dx vs, v = .ref a ∧ W.fz a = some (.ins (L.cad c) dx (((L.lay c).map L.nm).zip vs)) ∧ (L.lay c).length = ds.length ∧ Rls ds vs
  | .ref n, v => ∃ a, v = .ref a ∧ W.io[n]? = some a
  | .fn f, v => v = .ref (L.fad f) ∧ L.isF f = true
def Rls : List D → List V → Prop
  | [], vs => vs = []
  | d :: ds, vs => ∃ v vs', vs = v :: vs' ∧ Rl d v ∧ Rls ds vs'
end
end
theorem SqT_mono {K : PySem.W.Frag} {H H' : Hp} {a : Addr} {xs : List V} (e : ∀ a o, H a = some o → H' a = some o) (h : SqT K H a xs) : SqT K H' a xs := by
  rcases h with (h | ⟨o, h⟩) | h
  · exact .inl (.inl (e _ _ h))
  · exact .inl (.inr ⟨o, e _ _ h⟩)
  · exact .inr h
section
variable {K : PySem.W.Frag} {L : Lw} {W W' : Wd}
mutual
theorem Rl.mono (e : W.le W') : ∀ {d : D} {v : V}, Rl K L W d v → Rl K L W' d v
  | .non, v, h => by unfold Rl at h ⊢; exact h
  | .bl b, v, h => by unfold Rl at h ⊢; exact h
  | .int b, v, h => by unfold Rl at h ⊢; exact h
  | .str b, v, h => by unfold Rl at h ⊢; exact h
  | .tup ds, v, h => by
    unfold Rl at h ⊢
    obtain ⟨a, vs, e1, h1, h2⟩ := h
    exact ⟨a, vs, e1, SqT_mono e.1 h1, Rls.mono e h2⟩
  | .obj c ds, v, h => by
    unfold Rl at h ⊢
    obtain ⟨a, dx, vs, e1, h1, h3, h2⟩ := h
    exact ⟨a, dx, vs, e1, e.1 _ _ h1, h3, Rls.mono e h2⟩
  | .ref n, v, h => by
    unfold Rl at h ⊢
    obtain ⟨a, e1, h1⟩ := h
    exact ⟨a, e1, e.2 _ _ h1⟩
  | .fn f, v, h => by unfold Rl at h ⊢; exact h
theorem Rls.mono (e : W.le W') : ∀ {ds : List D} {vs : List V}, Rls K L W ds vs → Rls K L W' ds vs
  | [], vs, h => by unfold Rls at h ⊢; exact h
  | d :: ds, vs, h => by
    unfold Rls at h ⊢
    obtain ⟨v, vs', e1, h1, h2⟩ := h
    exact ⟨v, vs', e1, Rl.mono e h1, Rls.mono e h2⟩
end
theorem Rl.non {v : V} : Rl K L W .non v ↔ v = .non := by unfold Rl; exact Iff.rfl
theorem Rl.bl {b : Bool} {v : V} : Rl K L W (.bl b) v ↔ v = .bl b := by unfold Rl; exact Iff.rfl
theorem Rl.int {b : Int} {v : V} : Rl K L W (.int b) v ↔ v = .int b := by unfold Rl; exact Iff.rfl
theorem Rl.str {b : Str} {v : V} : Rl K L W (.str b) v ↔ v = .str b := by unfold Rl; exact Iff.rfl
theorem Rl.tup {ds : List D} {v : V} : Rl K L W (.tup ds) v ↔ ∃ a vs, v = .ref a ∧ SqT K W.fz a vs ∧ Rls K L W ds vs := by
  constructor <;> intro h
  · unfold Rl at h; exact h
  · unfold Rl; exact h
theorem Rl.obj {c : Nat} {ds : List D} {v : V} : Rl K L W (.obj c ds) v ↔ ∃ a dx vs, v = .ref a ∧ W.fz a = some (.ins (L.cad c) dx (((L.lay c).map L.nm).zip vs)) ∧ (L.lay c).length = ds.length ∧ Rls K L W ds vs := by
  constructor <;> intro h
  · unfold Rl at h; exact h
  · unfold Rl; exact h
theorem Rl.ref {n : Nat} {v : V} : Rl K L W (.ref n) v ↔ ∃ a, v = .ref a ∧ W.io[n]? = some a := by
  constructor <;> intro h
  · unfold Rl at h; exact h
  · unfold Rl; exact h
theorem Rl.fn {f : Nat} {v : V} : Rl K L W (.fn f) v ↔ v = .ref (L.fad f) ∧ L.isF f = true := by unfold Rl; exact Iff.rfl
theorem Rls.nil {vs : List V} : Rls K L W [] vs ↔ vs = [] := by unfold Rls; exact Iff.rfl
theorem Rls.cons {d : D} {ds : List D} {vs : List V} : Rls K L W (d :: ds) vs ↔ ∃ v vs', vs = v :: vs' ∧ Rl K L W d v ∧ Rls K L W ds vs' := by
  constructor <;> intro h
  · unfold Rls at h; exact h
  · unfold Rls; exact h
theorem Rls.mk {d : D} {ds : List D} {v : V} {vs : List V} (h : Rl K L W d v) (h2 : Rls K L W ds vs) : Rls K L W (d :: ds) (v :: vs) := Rls.cons.mpr ⟨v, vs, rfl, h, h2⟩
theorem Rls.length : ∀ {ds : List D} {vs : List V}, Rls K L W ds vs → ds.length = vs.length
  | [], vs, h => by rw [Rls.nil.mp h]; rfl
  | d :: ds, vs, h => by
    obtain ⟨v, vs', rfl, _, h2⟩ := Rls.cons.mp h
    rw [List.length_cons, List.length_cons, Rls.length h2]
theorem Rls.append : ∀ {ds es : List D} {vs us : List V}, Rls K L W ds vs → Rls K L W es us → Rls K L W (ds ++ es) (vs ++ us)
  | [], es, vs, us, h, h2 => by rw [Rls.nil.mp h]; exact h2
  | d :: ds, es, vs, us, h, h2 => by
    obtain ⟨v, vs', rfl, h1, h3⟩ := Rls.cons.mp h
    exact Rls.mk h1 (Rls.append h3 h2)
end

def Cell.live : Cell → Bool
  | .lst _ => true | .dic _ => true | .ins _ _ => true | _ => false
section
variable (K : PySem.W.Frag) (L : Lw) (W : Wd)
inductive RKv : List (Key × D) → List (Key × V) → Prop
  | nil : RKv [] []
  | cons {k : Key} {d : D} {v : V} {ds : List (Key × D)} {vs : List (Key × V)} : Rl K L W d v → RKv ds vs → RKv ((k, d) :: ds) ((k, v) :: vs)
def RoL (H : Hp) (a : Addr) (vs : List V) : Prop := (∃ o, H a = some (.frz o (.lst vs))) ∨
    ∃ (o : Obj) (its : Array Value) (n : Nat), K.lookup a = some o ∧ o.cls = .type "list" ∧ o.dict = none ∧ o.data = .seq its n ∧ its.size ≤ sizeLine ∧ Vals vs its.toList
def CloO (f : Addr) (F : LF) (cl : List (Str × Addr)) (c' : Addr) : HO := .ext fun h => ∃ pm ctv : Value, h.get? f = some (PySem.W.kla_obj "<lambda>" F.qual F.params F.body F.scope cl pm c' ctv)
def CloR (a : Addr) (F : LF) (γ : List (Str × Addr)) : Prop := ∃ c', W.fz a = some (CloO a F (cloFrom γ F.scope.names []) c') ∧ W.fz c' = some (LamX.CodeO c' F.qual)
def CellR (H : Hp) (a : Addr) : Cell → Prop
  | .lst ds => ∃ vs, H a = some (.lst vs) ∧ Rls K L W ds vs
  | .rol ds => ∃ vs, RoL K H a vs ∧ Rls K L W ds vs
  | .dic kvs => ∃ vs, H a = some (.dK vs) ∧ RKv K L W kvs vs
  | .ins c fs => ∃ dx vs, H a = some (.ins (L.cad c) dx ((fs.map fun p => L.nm p.1).zip vs)) ∧ Rls K L W (fs.map (·.2)) vs
  | .dead => True
  | .clo _ F γ => CloR W a F γ
structure Sok (st : Store) (H : Hp) : Prop where
  fz : ∀ a o, W.fz a = some o → H a = some o
  len : st.length = W.io.length
  cell : ∀ (n : Nat) (c : Cell) (a : Addr), st[n]? = some c → W.io[n]? = some a → CellR K L W H a c
  ap : ∀ (n : Nat) (c : Cell) (a : Addr), st[n]? = some c → c.live = true → W.io[n]? = some a → W.fz a = none
  inj : ∀ (m n : Nat) (c c' : Cell) (a : Addr), st[m]? = some c → st[n]? = some c' → c.live = true → c'.live = true → W.io[m]? = some a → W.io[n]? = some a → m = n
  nt : ∀ a o, W.fz a = some o → ∀ ps, o ≠ .tbl ps
  tb : LamX.Tabs L.tabs H
end
section
variable {K : PySem.W.Frag} {L : Lw} {W W' : Wd} {st : Store} {H H' : Hp}
theorem RKv.mono (e : W.le W') {kvs : List (Key × D)} {vs : List (Key × V)} (h : RKv K L W kvs vs) : RKv K L W' kvs vs := by
  induction h with
  | nil => exact .nil
  | cons r _ ih => exact .cons (r.mono e) ih
theorem CellR.mono (e : W.le W') {a : Addr} {c : Cell} (h : CellR K L W H a c) (hl : ∀ o, H a = some o → H' a = some o) : CellR K L W' H' a c := by
  cases c with
  | lst ds => obtain ⟨vs, h1, h2⟩ := h; exact ⟨vs, hl _ h1, h2.mono e⟩
  | rol ds =>
    obtain ⟨vs, h1, h2⟩ := h
    refine ⟨vs, ?_, h2.mono e⟩
    rcases h1 with ⟨o, h⟩ | h
    · exact .inl ⟨o, hl _ h⟩
    · exact .inr h
  | dic kvs => obtain ⟨vs, h1, h2⟩ := h; exact ⟨vs, hl _ h1, h2.mono e⟩
  | ins c fs => obtain ⟨dx, vs, h1, h2⟩ := h; exact ⟨dx, vs, hl _ h1, h2.mono e⟩
  | dead => trivial
  | clo j F γ => obtain ⟨c', h1, h2⟩ := h; exact ⟨c', e.1 _ _ h1, e.1 _ _ h2⟩
theorem CellR.there {a : Addr} {c : Cell} (h : CellR K L W H a c) (hc : c.live = true) : ∃ o, H a = some o := by
  cases c with
  | lst ds => obtain ⟨vs, h1, h2⟩ := h; exact ⟨_, h1⟩
  | rol ds => cases hc
  | dic kvs => obtain ⟨vs, h1, h2⟩ := h; exact ⟨_, h1⟩
  | ins c fs => obtain ⟨dx, vs, h1, h2⟩ := h; exact ⟨_, h1⟩
  | dead => cases hc
  | clo _ _ _ => cases hc
theorem Sok.grow (s : Sok K L W st H) (h : ∀ a o, H a = some o → H' a = some o) : Sok K L W st H' :=
  ⟨fun a o e => h _ _ (s.fz a o e), s.len, fun n c a e1 e2 => (s.cell n c a e1 e2).mono .rfl' fun o => h a o, s.ap, s.inj, s.nt, s.tb.ext h⟩
def Wd.freeze (W : Wd) (a : Addr) (o : HO) : Wd := ⟨upd W.fz a o, W.io⟩
theorem Wd.le_freeze {a : Addr} {o : HO} (h : W.fz a = none) : W.le (W.freeze a o) :=
  ⟨fun b u e => by show upd W.fz a o b = _; rw [upd_ne (ne_of_none e h)]; exact e, fun _ _ e => e⟩
theorem upd_grow {p : Addr} {o : HO} (hp : H p = none) : ∀ a u, H a = some u → upd H p o a = some u := fun a u e => by rw [upd_ne (ne_of_none e hp)]; exact e
def Wd.more (W : Wd) (a : Addr) : Wd := ⟨W.fz, W.io ++ [a]⟩
theorem Wd.le_more {a : Addr} : W.le (W.more a) := ⟨fun _ _ h => h, fun n b h => by
  show (W.io ++ [a])[n]? = some b
  rw [List.getElem?_append_left (List.getElem?_eq_some_iff.mp h).1]
  exact h⟩
theorem Sok.alloc (s : Sok K L W st H) {p : Addr} {o : HO} {c : Cell} (hp : H p = none) (hc : CellR K L (W.more p) (upd H p o) p c) : Sok K L (W.more p) (st ++ [c]) (upd H p o) := by
  have hf : W.fz p = none := by
    cases q : W.fz p with
    | none => rfl
    | some u => have := s.fz p u q; rw [hp] at this; cases this
  have split : ∀ {n x a}, (st ++ [c])[n]? = some x → (W.io ++ [p])[n]? = some a → (st[n]? = some x ∧ W.io[n]? = some a) ∨ (n = st.length ∧ x = c ∧ a = p) := fun {n x a} h1 h2 => by
    by_cases hn : n < st.length
    · rw [List.getElem?_append_left hn] at h1
      rw [List.getElem?_append_left (by rw [← s.len]; exact hn)] at h2
      exact .inl ⟨h1, h2⟩
    · have hl : n < (st ++ [c]).length := (List.getElem?_eq_some_iff.mp h1).1
      rw [List.length_append, List.length_singleton] at hl
      have hn' : n = st.length := by omega
      subst hn'
      rw [List.getElem?_concat_length] at h1
      rw [s.len, List.getElem?_concat_length] at h2
      exact .inr ⟨rfl, (Option.some.inj h1).symm, (Option.some.inj h2).symm⟩
  refine ⟨fun a u q => upd_grow hp _ _ (s.fz a u q), ?_, fun n x a e1 e2 => ?_, fun n x a e1 e2 e3 => ?_, fun m n x y a e1 e2 l1 l2 e3 e4 => ?_, s.nt, s.tb.ext (upd_grow hp)⟩
  · show (st ++ [c]).length = (W.io ++ [p]).length
    rw [List.length_append, List.length_append, s.len]; rfl
  · rcases split e1 e2 with ⟨h1, h2⟩ | ⟨_, rfl, rfl⟩
    · exact (s.cell n x a h1 h2).mono Wd.le_more fun u q => upd_grow hp _ _ q
    · exact hc
  · rcases split e1 e3 with ⟨h1, h2⟩ | ⟨_, rfl, rfl⟩
    · exact s.ap n x a h1 e2 h2
    · exact hf
  · rcases split e1 e3 with ⟨h1, h2⟩ | ⟨h0, rfl, rfl⟩
    · rcases split e2 e4 with ⟨h3, h4⟩ | ⟨_, rfl, rfl⟩
      · exact s.inj m n x y a h1 h3 l1 l2 h2 h4
      · obtain ⟨u, hu⟩ := (s.cell m x a h1 h2).there l1
        rw [hp] at hu; cases hu
    · rcases split e2 e4 with ⟨h3, h4⟩ | ⟨h5, rfl, _⟩
      · obtain ⟨u, hu⟩ := (s.cell n y a h3 h4).there l2
        rw [hp] at hu; cases hu
      · rw [h0, h5]
theorem Sok.finish (s : Sok K L W st H) {n c : Nat} {a : Addr} {fs : List (Nat × D)} (hn : st[n]? = some (.ins c fs)) (ha : W.io[n]? = some a) (hf : fs.map (·.1) = L.lay c) :
    ∃ W', W.le W' ∧ Sok K L W' (st.set n .dead) H ∧ Rl K L W' (.obj c (fs.map (·.2))) (.ref a) := by
  obtain ⟨dx, vs, h1, h2⟩ := s.cell n _ a hn ha
  have hz := s.ap n _ a hn rfl ha
  have hlt : n < st.length := (List.getElem?_eq_some_iff.mp hn).1
  have e := Wd.le_freeze (o := HO.ins (L.cad c) dx ((fs.map fun p => L.nm p.1).zip vs)) hz
  have at_ : ∀ {m x}, (st.set n .dead)[m]? = some x → (m = n ∧ x = .dead) ∨ (m ≠ n ∧ st[m]? = some x) := fun {m x} h => by
    by_cases hm : m = n
    · subst hm
      rw [List.getElem?_set_self hlt] at h
      exact .inl ⟨rfl, (Option.some.inj h).symm⟩
    · rw [List.getElem?_set_ne (Ne.symm hm)] at h
      exact .inr ⟨hm, h⟩
  refine ⟨_, e, ⟨fun b u q => ?_, by rw [List.length_set]; exact s.len, fun m x b e1 e2 => ?_, fun m x b e1 e2 e3 => ?_, fun m k x y b e1 e2 l1 l2 e3 e4 => ?_, fun b u q => ?_, s.tb⟩, ?_⟩
  · by_cases hb : b = a
    · subst hb
      have q' : upd W.fz b _ b = some u := q
      rw [upd_same] at q'
      rw [← q']; exact h1
    · have q' : upd W.fz a _ b = some u := q
      rw [upd_ne hb] at q'
      exact s.fz b u q'
  · rcases at_ e1 with ⟨rfl, rfl⟩ | ⟨hm, q1⟩
    · trivial
    · exact (s.cell m x b q1 e2).mono e fun _ q => q
  · rcases at_ e1 with ⟨rfl, rfl⟩ | ⟨hm, q1⟩
    · cases e2
    · show upd W.fz a _ b = none
      rw [upd_ne]
      · exact s.ap m x b q1 e2 e3
      · rintro rfl
        exact hm (s.inj m n x _ b q1 hn e2 rfl e3 ha)
  · rcases at_ e1 with ⟨rfl, rfl⟩ | ⟨_, q1⟩
    · cases l1
    · rcases at_ e2 with ⟨rfl, rfl⟩ | ⟨_, q2⟩
      · cases l2
      · exact s.inj m k x y b q1 q2 l1 l2 e3 e4
  · by_cases hb : b = a
    · subst hb
      have q' : upd W.fz b _ b = some u := q
      rw [upd_same] at q'
      cases q'
      intro ps z
      cases z
    · have q' : upd W.fz a _ b = some u := q
      rw [upd_ne hb] at q'
      exact s.nt _ _ q'
  · refine Rl.obj.mpr ⟨a, dx, vs, rfl, ?_, by rw [← hf, List.length_map, List.length_map], h2.mono e⟩
    show upd W.fz a _ a = _
    rw [upd_same, ← hf, List.map_map]
    rfl
end
end Gm
namespace Gm
open PySem PySem.Spec PyProof.Rows L2
def Res.bind {α β : Type} (r : Res α) (k : α → Store → Res β) : Res β := match r with
  | .ok a st => k a st
  | .err x st => .err x st
  | .stuck => .stuck
abbrev Fe := Ev → Store → Res D
abbrev Fa := Ev → Store → Res (List D)
abbrev Ft := Ev → Store → Res Bool
inductive SR where
  | nx (ρ : Ev) (st : Store) | rt (d : D) (st : Store) | bk (ρ : Ev) (st : Store) | ct (ρ : Ev) (st : Store) | err (x : Exn) (ρ : Ev) (st : Store) | stuck
abbrev Fs := Ev → Store → SR
section
variable (K : PySem.W.Frag) (L : Lw) (Wx : WX) (W : Wd) (σ : St)
def XR (x : Exn) (cls : Value) (dx : Option Addr) : Prop := cls = .ref (L.cad x.c) ∧
  ((x.ds = [] ∧ dx = none) ∨ ∃ d vs, dx = some d ∧ W.fz d = some (.xd (((L.lay x.c).map L.nm).zip vs)) ∧ (L.lay x.c).length = x.ds.length ∧ Rls K L W x.ds vs)
def Out {β : Type} (Ok : Wd → Hp → β → Prop) : Res β → Prop
  | .ok b st => ∀ W' H', W.le W' → Sok K L W' st H' → Ok W' H' b
  | .err x st => ∀ W' H' cls dx, W.le W' → Sok K L W' st H' → XR K L W' x cls dx → Wx cls dx σ H'
  | .stuck => False
def EnR (ρ : Ev) : Prop := ρ.length = σ.length ∧ ∀ (i : Nat) (d : D), ρ[i]? = some (some d) → ∃ v, σ[i]? = some (some v) ∧ Rl K L W d v
def okE (Q : VK) : Wd → Hp → D → Prop := fun W' H' d => ∀ v, Rl K L W' d v → Q v H'
def okA (Q : List V → Hp → Prop) : Wd → Hp → List D → Prop := fun W' H' ds => ∀ vs, Rls K L W' ds vs → Q vs H'
def okT (Q : Bool → Hp → Prop) : Wd → Hp → Bool → Prop := fun W' H' b => Q b H'
def OutS (D : Ends) : SR → Prop
  | .nx ρ st => ∀ W' H' σ', W.le W' → Sok K L W' st H' → EnR K L W' σ' ρ → D.nx σ' H'
  | .rt d st => ∀ W' H' v, W.le W' → Sok K L W' st H' → Rl K L W' d v → D.rt v H'
  | .bk ρ st => ∀ W' H' σ', W.le W' → Sok K L W' st H' → EnR K L W' σ' ρ → D.bk σ' H'
  | .ct ρ st => ∀ W' H' σ', W.le W' → Sok K L W' st H' → EnR K L W' σ' ρ → D.ct σ' H'
  | .err x ρ st => ∀ W' H' σ' cls dx, W.le W' → Sok K L W' st H' → EnR K L W' σ' ρ → XR K L W' x cls dx → Wx cls dx σ' H'
  | .stuck => False
end
section
variable {K : PySem.W.Frag} {L : Lw} {Wx : WX} {W W1 : Wd} {σ : St}
theorem Out.mono {β : Type} {Ok : Wd → Hp → β → Prop} {r : Res β} (e : W.le W1) (h : Out K L Wx W σ Ok r) : Out K L Wx W1 σ Ok r := by
  cases r with
  | ok b st => exact fun W' H' e' => h W' H' (e.trans e')
  | err x st => exact fun W' H' cls dx e' => h W' H' cls dx (e.trans e')
  | stuck => exact h
theorem OutS.mono {D : Ends} {r : SR} (e : W.le W1) (h : OutS K L Wx W D r) : OutS K L Wx W1 D r := by
  cases r with
  | nx ρ st => exact fun W' H' σ' e' => h W' H' σ' (e.trans e')
  | bk ρ st => exact fun W' H' σ' e' => h W' H' σ' (e.trans e')
  | ct ρ st => exact fun W' H' σ' e' => h W' H' σ' (e.trans e')
  | rt ρ st => exact fun W' H' σ' e' => h W' H' σ' (e.trans e')
  | err x ρ st => exact fun W' H' σ' cls dx e' => h W' H' σ' cls dx (e.trans e')
  | stuck => exact h
theorem EnR.mono {ρ : Ev} (e : W.le W1) (h : EnR K L W σ ρ) : EnR K L W1 σ ρ := ⟨h.1, fun i d q => by
  obtain ⟨v, h1, h2⟩ := h.2 i d q
  exact ⟨v, h1, h2.mono e⟩⟩
end

section
variable (L : Lw) (X : Cx) (Wx : WX)
structure RE (e : Expr) (f : Fe) : Prop where
  run : ∀ (pins : List (Addr × Obj)) (s : Shared) (σ : St) (H : Hp) (W : Wd) (st : Store) (ρ : Ev) (Q : VK), Inv X pins σ H s → Sok X.K L W st H → EnR X.K L W σ ρ → Out X.K L Wx W σ (okE X.K L Q) (f ρ st) →
    wpAny (model X.prog X.w) X.A (eval e X.env) (EP X pins σ Q) X.xe s
structure RA (es : List Expr) (f : Fa) : Prop where
  len : ∀ ρ st ds st', f ρ st = .ok ds st' → ds.length = es.length
  run : ∀ (pos : Pos) (pins : List (Addr × Obj)) (s : Shared) (σ : St) (H : Hp) (W : Wd) (st : Store) (ρ : Ev) (Q : List V → Hp → Prop), Inv X pins σ H s → Sok X.K L W st H → EnR X.K L W σ ρ → Out X.K L Wx W σ (okA X.K L Q) (f ρ st) →
    wpAny (model X.prog X.w) X.A (spliced (backTo pos (starEach es X.env))) (AP X pins σ Q) X.xe s
structure RT (e : Expr) (f : Ft) : Prop where
  run : ∀ (pins : List (Addr × Obj)) (s : Shared) (σ : St) (H : Hp) (W : Wd) (st : Store) (ρ : Ev) (Q : Bool → Hp → Prop), Inv X pins σ H s → Sok X.K L W st H → EnR X.K L W σ ρ → Out X.K L Wx W σ (okT Q) (f ρ st) →
    wpAny (model X.prog X.w) X.A (isTrue e X.env (eval e X.env)) (TP X pins σ Q) X.xe s
structure RW (e : Expr) (f : Ft) : Prop where
  run : ∀ (whole : Sem Value) (pins : List (Addr × Obj)) (s : Shared) (σ : St) (H : Hp) (W : Wd) (st : Store) (ρ : Ev) (Q : Bool → Hp → Prop), Inv X pins σ H s → Sok X.K L W st H → EnR X.K L W σ ρ → Out X.K L Wx W σ (okT Q) (f ρ st) →
    wpAny (model X.prog X.w) X.A (isTrue e X.env whole) (TP X pins σ Q) X.xe s
structure RS (st : Stmt) (f : Fs) : Prop where
  run : ∀ (pins : List (Addr × Obj)) (s : Shared) (σ : St) (H : Hp) (W : Wd) (sto : Store) (ρ : Ev) (D : Ends), Inv X pins σ H s → Sok X.K L W sto H → EnR X.K L W σ ρ → OutS X.K L Wx W D (f ρ sto) →
    wpAny (model X.prog X.w) X.A (exec st X.env) (SP X pins D) X.xe s
structure RSs (st : List Stmt) (f : Fs) : Prop where
  run : ∀ (pins : List (Addr × Obj)) (s : Shared) (σ : St) (H : Hp) (W : Wd) (sto : Store) (ρ : Ev) (D : Ends), Inv X pins σ H s → Sok X.K L W sto H → EnR X.K L W σ ρ → OutS X.K L Wx W D (f ρ sto) →
    wpAny (model X.prog X.w) X.A (execs st X.env) (SP X pins D) X.xe s
def R2v (F : Value → Value → Sem Value) (g : D → D → Store → Res D) : Prop :=
  ∀ (pins : List (Addr × Obj)) (s : Shared) (σ : St) (H : Hp) (W : Wd) (st : Store) (d1 d2 : D) (x y : V) (v u : Value) (Q : VK), Inv X pins σ H s → Sok X.K L W st H → Rl X.K L W d1 x → Rl X.K L W d2 y → RelV x v → RelV y u →
    Out X.K L Wx W σ (okE X.K L Q) (g d1 d2 st) → wpAny (model X.prog X.w) X.A (F v u) (EP X pins σ Q) X.xe s
def R1v (F : Value → Sem Value) (g : D → Store → Res D) : Prop :=
  ∀ (pins : List (Addr × Obj)) (s : Shared) (σ : St) (H : Hp) (W : Wd) (st : Store) (d1 : D) (x : V) (v : Value) (Q : VK), Inv X pins σ H s → Sok X.K L W st H → Rl X.K L W d1 x → RelV x v →
    Out X.K L Wx W σ (okE X.K L Q) (g d1 st) → wpAny (model X.prog X.w) X.A (F v) (EP X pins σ Q) X.xe s
def Rtv (g : D → Store → Res Bool) : Prop :=
  ∀ (pins : List (Addr × Obj)) (s : Shared) (σ : St) (H : Hp) (W : Wd) (st : Store) (d1 : D) (x : V) (v : Value) (Q : Bool → Hp → Prop), Inv X pins σ H s → Sok X.K L W st H → Rl X.K L W d1 x → RelV x v →
    Out X.K L Wx W σ (okT Q) (g d1 st) → wpAny (model X.prog X.w) X.A (truthy v) (TP X pins σ Q) X.xe s
end

section
variable {L : Lw} {X : Cx} {Wx : WX}
section
variable {pins : List (Addr × Obj)} {s : Shared} {σ : St} {H : Hp} {W : Wd} {st : Store} {ρ : Ev} {e : Expr} {f : Fe}
theorem RE.seq {P : Value → Shared → Prop} {r : Res D} (h : RE L X Wx e f) (I : Inv X pins σ H s) (S : Sok X.K L W st H) (E : EnR X.K L W σ ρ) (hf : f ρ st = r)
    (hx : ∀ x st', r = .err x st' → ∀ W' H' cls dx, W.le W' → Sok X.K L W' st' H' → XR X.K L W' x cls dx → Wx cls dx σ H') (hs : r ≠ .stuck)
    (hk : ∀ d st1 W1 H1 v u s1, r = .ok d st1 → W.le W1 → Inv X pins σ H1 s1 → Sok X.K L W1 st1 H1 → Rl X.K L W1 d v → RelV v u → P u s1) :
    wpAny (model X.prog X.w) X.A (eval e X.env) P X.xe s := by
  cases r with
  | ok d st1 =>
    refine thn (h.run pins s σ H W st ρ (fun v H1 => ∃ W1, W.le W1 ∧ Sok X.K L W1 st1 H1 ∧ Rl X.K L W1 d v) I S E ?_) fun u s1 ⟨v, H1, I1, rv, W1, e1, S1, R1⟩ => hk d st1 W1 H1 v u s1 rfl e1 I1 S1 R1 rv
    rw [hf]
    exact fun W' H' e' S' v R' => ⟨W', e', S', R'⟩
  | err x st1 =>
    refine thn (h.run pins s σ H W st ρ (fun _ _ => False) I S E ?_) fun u s1 ⟨v, H1, I1, rv, z⟩ => z.elim
    rw [hf]
    exact fun W' H' cls dx => hx x st1 rfl W' H' cls dx
  | stuck => exact absurd rfl hs
theorem RE.bind {β : Type} {Ok : Wd → Hp → β → Prop} {k : D → Store → Res β} {P : Value → Shared → Prop} (h : RE L X Wx e f) (I : Inv X pins σ H s) (S : Sok X.K L W st H) (E : EnR X.K L W σ ρ) (o : Out X.K L Wx W σ Ok ((f ρ st).bind k))
    (hk : ∀ d st1 W1 H1 v u s1, W.le W1 → Inv X pins σ H1 s1 → Sok X.K L W1 st1 H1 → Rl X.K L W1 d v → RelV v u → Out X.K L Wx W1 σ Ok (k d st1) → P u s1) :
    wpAny (model X.prog X.w) X.A (eval e X.env) P X.xe s := by
  refine h.seq I S E rfl (fun x st' q => ?_) (fun q => ?_) fun d st1 W1 H1 v u s1 q e1 I1 S1 R1 rv => ?_
  · rw [q] at o; exact o
  · rw [q] at o; exact o
  · rw [q] at o; exact hk d st1 W1 H1 v u s1 e1 I1 S1 R1 rv (Out.mono e1 o)
theorem RA.bind {es : List Expr} {f : Fa} {β : Type} {Ok : Wd → Hp → β → Prop} {k : List D → Store → Res β} {pos : Pos} {P : List Value → Shared → Prop} (h : RA L X Wx es f) (I : Inv X pins σ H s) (S : Sok X.K L W st H) (E : EnR X.K L W σ ρ) (o : Out X.K L Wx W σ Ok ((f ρ st).bind k))
    (hk : ∀ ds st1 W1 H1 vs us s1, ds.length = es.length → W.le W1 → Inv X pins σ H1 s1 → Sok X.K L W1 st1 H1 → Rls X.K L W1 ds vs → Vals vs us → Out X.K L Wx W1 σ Ok (k ds st1) → P us s1) :
    wpAny (model X.prog X.w) X.A (spliced (backTo pos (starEach es X.env))) P X.xe s := by
  have hl := h.len ρ st
  cases hf : f ρ st with
  | ok ds st1 =>
    rw [hf] at o
    refine thn (h.run pos pins s σ H W st ρ (fun v H1 => ∃ W1, W.le W1 ∧ Sok X.K L W1 st1 H1 ∧ Rls X.K L W1 ds v) I S E ?_) fun u s1 ⟨v, H1, I1, rv, W1, e1, S1, R1⟩ => hk ds st1 W1 H1 v u s1 (hl _ _ hf) e1 I1 S1 R1 rv (Out.mono e1 o)
    rw [hf]
    exact fun W' H' e' S' v R' => ⟨W', e', S', R'⟩
  | err x st1 =>
    rw [hf] at o
    refine thn (h.run pos pins s σ H W st ρ (fun _ _ => False) I S E ?_) fun u s1 ⟨v, H1, I1, rv, z⟩ => z.elim
    rw [hf]
    exact o
  | stuck => rw [hf] at o; exact o.elim
theorem RT.seq {f : Ft} {P : Bool → Shared → Prop} {r : Res Bool} (h : RT L X Wx e f) (I : Inv X pins σ H s) (S : Sok X.K L W st H) (E : EnR X.K L W σ ρ) (hf : f ρ st = r)
    (hx : ∀ x st', r = .err x st' → ∀ W' H' cls dx, W.le W' → Sok X.K L W' st' H' → XR X.K L W' x cls dx → Wx cls dx σ H') (hs : r ≠ .stuck)
    (hk : ∀ b st1 W1 H1 s1, r = .ok b st1 → W.le W1 → Inv X pins σ H1 s1 → Sok X.K L W1 st1 H1 → P b s1) :
    wpAny (model X.prog X.w) X.A (isTrue e X.env (eval e X.env)) P X.xe s := by
  cases r with
  | ok d st1 =>
    refine thn (h.run pins s σ H W st ρ (fun b H1 => b = d ∧ ∃ W1, W.le W1 ∧ Sok X.K L W1 st1 H1) I S E ?_) fun u s1 ⟨H1, I1, eb, W1, e1, S1⟩ => by subst eb; exact hk _ st1 W1 H1 s1 rfl e1 I1 S1
    rw [hf]
    exact fun W' H' e' S' => ⟨rfl, W', e', S'⟩
  | err x st1 =>
    refine thn (h.run pins s σ H W st ρ (fun _ _ => False) I S E ?_) fun u s1 ⟨H1, I1, z⟩ => z.elim
    rw [hf]
    exact fun W' H' cls dx => hx x st1 rfl W' H' cls dx
  | stuck => exact absurd rfl hs
theorem RT.bind {f : Ft} {β : Type} {Ok : Wd → Hp → β → Prop} {k : Bool → Store → Res β} {P : Bool → Shared → Prop} (h : RT L X Wx e f) (I : Inv X pins σ H s) (S : Sok X.K L W st H) (E : EnR X.K L W σ ρ) (o : Out X.K L Wx W σ Ok ((f ρ st).bind k))
    (hk : ∀ b st1 W1 H1 s1, W.le W1 → Inv X pins σ H1 s1 → Sok X.K L W1 st1 H1 → Out X.K L Wx W1 σ Ok (k b st1) → P b s1) :
    wpAny (model X.prog X.w) X.A (isTrue e X.env (eval e X.env)) P X.xe s := by
  refine h.seq I S E rfl (fun x st' q => ?_) (fun q => ?_) fun d st1 W1 H1 s1 q e1 I1 S1 => ?_
  · rw [q] at o; exact o
  · rw [q] at o; exact o
  · rw [q] at o; exact hk d st1 W1 H1 s1 e1 I1 S1 (Out.mono e1 o)
end
end
end Gm
namespace Gm
open PySem PySem.Spec PyProof.Rows L2
def xVar (i : Nat) : Fe := fun ρ st => match ρ[i]? with | some (some d) => .ok d st | _ => .stuck
def aNil : Fa := fun _ st => .ok [] st
def aCons (f : Fe) (r : Fa) : Fa := fun ρ st => (f ρ st).bind fun a st => (r ρ st).bind fun l st => .ok (a :: l) st
section
variable {L : Lw} {X : Cx} {Wx : WX} {a b c : Expr} {f h k : Fe} {pos : Pos}
theorem RE.of_pe {e : Expr} {t : TE} (p : PE X e t) (hf : ∀ σ H W st ρ Q, Sok X.K L W st H → EnR X.K L W σ ρ → Out X.K L Wx W σ (okE X.K L Q) (f ρ st) → t σ H Q) : RE L X Wx e f :=
  ⟨fun pins s σ H W st ρ Q I S E o => p.run pins s σ H Q I (hf σ H W st ρ Q S E o)⟩
theorem re_var {i : Nat} {x : Str} (p : PE X (.Name x pos) (tVar i)) : RE L X Wx (.Name x pos) (xVar i) := RE.of_pe p fun σ H W st ρ Q S E o => by
  unfold xVar at o
  cases h1 : ρ[i]? with
  | none => rw [h1] at o; exact o.elim
  | some z =>
    cases z with
    | none => rw [h1] at o; exact o.elim
    | some d =>
      rw [h1] at o
      obtain ⟨v, e1, r⟩ := E.2 i d h1
      exact ⟨v, e1, o W H .rfl' S v r⟩
theorem R2v.bind {F : Value → Value → Sem Value} {g : D → D → Store → Res D} (ho : R2v L X Wx F g) {pins : List (Addr × Obj)} {s : Shared} {σ : St} {H : Hp} {W : Wd} {st : Store} {d1 d2 : D} {x y : V} {v u : Value} {β : Type} {Ok : Wd → Hp → β → Prop} {k : D → Store → Res β} {P : Value → Shared → Prop}
    (I : Inv X pins σ H s) (S : Sok X.K L W st H) (R1 : Rl X.K L W d1 x) (R2 : Rl X.K L W d2 y) (r1 : RelV x v) (r2 : RelV y u) (o : Out X.K L Wx W σ Ok ((g d1 d2 st).bind k))
    (hk : ∀ d st1 W1 H1 z w s1, W.le W1 → Inv X pins σ H1 s1 → Sok X.K L W1 st1 H1 → Rl X.K L W1 d z → RelV z w → Out X.K L Wx W1 σ Ok (k d st1) → P w s1) : wpAny (model X.prog X.w) X.A (F v u) P X.xe s := by
  cases q : g d1 d2 st with
  | ok d st1 =>
    rw [q] at o
    refine thn (ho pins s σ H W st d1 d2 x y v u (fun z H1 => ∃ W1, W.le W1 ∧ Sok X.K L W1 st1 H1 ∧ Rl X.K L W1 d z) I S R1 R2 r1 r2 ?_) fun w s1 ⟨z, H1, I1, rz, W1, e1, S1, Rz⟩ => hk d st1 W1 H1 z w s1 e1 I1 S1 Rz rz (Out.mono e1 o)
    rw [q]
    exact fun W' H' e' S' z R' => ⟨W', e', S', R'⟩
  | err x' st1 =>
    rw [q] at o
    refine thn (ho pins s σ H W st d1 d2 x y v u (fun _ _ => False) I S R1 R2 r1 r2 ?_) fun w s1 ⟨z, H1, I1, rz, hz⟩ => hz.elim
    rw [q]
    exact o
  | stuck => rw [q] at o; exact o.elim
theorem R1v.bind {F : Value → Sem Value} {g : D → Store → Res D} (ho : R1v L X Wx F g) {pins : List (Addr × Obj)} {s : Shared} {σ : St} {H : Hp} {W : Wd} {st : Store} {d1 : D} {x : V} {v : Value} {β : Type} {Ok : Wd → Hp → β → Prop} {k : D → Store → Res β} {P : Value → Shared → Prop}
    (I : Inv X pins σ H s) (S : Sok X.K L W st H) (R1 : Rl X.K L W d1 x) (r1 : RelV x v) (o : Out X.K L Wx W σ Ok ((g d1 st).bind k))
    (hk : ∀ d st1 W1 H1 z w s1, W.le W1 → Inv X pins σ H1 s1 → Sok X.K L W1 st1 H1 → Rl X.K L W1 d z → RelV z w → Out X.K L Wx W1 σ Ok (k d st1) → P w s1) : wpAny (model X.prog X.w) X.A (F v) P X.xe s := by
  cases q : g d1 st with
  | ok d st1 =>
    rw [q] at o
    refine thn (ho pins s σ H W st d1 x v (fun z H1 => ∃ W1, W.le W1 ∧ Sok X.K L W1 st1 H1 ∧ Rl X.K L W1 d z) I S R1 r1 ?_) fun w s1 ⟨z, H1, I1, rz, W1, e1, S1, Rz⟩ => hk d st1 W1 H1 z w s1 e1 I1 S1 Rz rz (Out.mono e1 o)
    rw [q]
    exact fun W' H' e' S' z R' => ⟨W', e', S', R'⟩
  | err x' st1 =>
    rw [q] at o
    refine thn (ho pins s σ H W st d1 x v (fun _ _ => False) I S R1 r1 ?_) fun w s1 ⟨z, H1, I1, rz, hz⟩ => hz.elim
    rw [q]
    exact o
  | stuck => rw [q] at o; exact o.elim
theorem Rtv.bind {g : D → Store → Res Bool} (ho : Rtv L X Wx g) {pins : List (Addr × Obj)} {s : Shared} {σ : St} {H : Hp} {W : Wd} {st : Store} {d1 : D} {x : V} {v : Value} {β : Type} {Ok : Wd → Hp → β → Prop} {k : Bool → Store → Res β} {P : Bool → Shared → Prop}
    (I : Inv X pins σ H s) (S : Sok X.K L W st H) (R1 : Rl X.K L W d1 x) (r1 : RelV x v) (o : Out X.K L Wx W σ Ok ((g d1 st).bind k))
    (hk : ∀ b st1 W1 H1 s1, W.le W1 → Inv X pins σ H1 s1 → Sok X.K L W1 st1 H1 → Out X.K L Wx W1 σ Ok (k b st1) → P b s1) : wpAny (model X.prog X.w) X.A (truthy v) P X.xe s := by
  cases q : g d1 st with
  | ok d st1 =>
    rw [q] at o
    refine thn (ho pins s σ H W st d1 x v (fun b H1 => b = d ∧ ∃ W1, W.le W1 ∧ Sok X.K L W1 st1 H1) I S R1 r1 ?_) fun w s1 ⟨H1, I1, e, W1, e1, S1⟩ => by subst e; exact hk _ st1 W1 H1 s1 e1 I1 S1 (Out.mono e1 o)
    rw [q]
    exact fun W' H' e' S' => ⟨rfl, W', e', S'⟩
  | err x' st1 =>
    rw [q] at o
    refine thn (ho pins s σ H W st d1 x v (fun _ _ => False) I S R1 r1 ?_) fun w s1 ⟨H1, I1, hz⟩ => hz.elim
    rw [q]
    exact o
  | stuck => rw [q] at o; exact o.elim

theorem RW.rt {e : Expr} {t : Ft} (w : RW L X Wx e t) : RT L X Wx e t := ⟨w.run _⟩
theorem Rl.newRef {K : PySem.W.Frag} {W : Wd} {st : Store} {H : Hp} {p : Addr} (S : Sok K L W st H) : Rl K L (W.more p) (.ref st.length) (.ref p) := Rl.ref.mpr ⟨p, rfl, by
  show (W.io ++ [p])[st.length]? = some p
  rw [S.len, List.getElem?_concat_length]⟩
end
end Gm
namespace Gm
open PySem PySem.Spec PyProof.Rows L2
abbrev Fn := Nat → List D → Store → Res D
def spM (K : PySem.W.Frag) (L : Lw) (n : Nat) (m : List D → Store → Res D) : Sp := fun vs H Q E => vs.length = n ∧ ∃ ds W st, Rls K L W ds vs ∧ Sok K L W st H ∧ Out K L (fun c d _ H => E c d H) W [] (okE K L Q) (m ds st)
def callD (T : Ls) (c : Fn) (f : Nat) (ds : List D) (st : Store) : Res D := match (T.dfl f).find? fun t => decide (ds.length + t.length = (T.fps f).length) with
  | some t => c f (ds ++ t) st
  | none => .stuck
theorem callD_some {T : Ls} {c : Fn} {f : Nat} {ds : List D} {st : Store} (h : callD T c f ds st ≠ .stuck) : ∃ t, t ∈ T.dfl f ∧ ds.length + t.length = (T.fps f).length ∧ callD T c f ds st = c f (ds ++ t) st := by
  unfold callD at h ⊢
  cases e : (T.dfl f).find? fun t => decide (ds.length + t.length = (T.fps f).length) with
  | none => rw [e] at h; exact absurd rfl h
  | some t => exact ⟨t, List.mem_of_find?_eq_some e, by simpa using List.find?_some e, rfl⟩
def opn : Operator → Nat
  | .Add => 1 | .Sub => 2 | .Mult => 3 | .FloorDiv => 4 | .Mod => 5 | .Pow => 6 | .BitAnd => 7 | .BitOr => 8 | .BitXor => 9 | _ => 0
def nameOf : Nat → Str
  | 1 => "__add__" | 2 => "__sub__" | 3 => "__mul__" | 4 => "__floordiv__" | 5 => "__mod__" | 6 => "__pow__" | 7 => "__and__" | 8 => "__or__" | 9 => "__xor__"
  | 11 => "__radd__" | 12 => "__rsub__" | 13 => "__rmul__" | 14 => "__rfloordiv__" | 15 => "__rmod__" | 16 => "__rpow__" | 17 => "__rand__" | 18 => "__ror__" | 19 => "__rxor__"
  | 21 => "__eq__" | 22 => "__lt__" | 23 => "__le__" | 24 => "__gt__" | 25 => "__ge__" | 27 => "__contains__"
  | 31 => "__neg__" | 32 => "__invert__" | 33 => "__abs__" | 34 => "__bool__" | 35 => "__str__" | 36 => "__call__" | 37 => "__init__" | 38 => "__len__" | 39 => "__getitem__"
  | _ => ""
structure ClsOk (K : PySem.W.Frag) (C : Addr) : Prop where
  cls : Cls K C
  first : PySem.W.selfFirst K C = true
  keep : PySem.W.keepIn K (.ref C) = true
def kinds : List String := ["NoneType", "bool", "int", "str", "list", "tuple", "dict"]
def niB : Nat := 1000000
structure NiOk (L : Lw) (P : Program) (w : World) (K : PySem.W.Frag) (mg : Str → Option Value) (base : Heap) (k : Nat) (f : Addr) (fd : FuncData) (ps : List Str) (nt : List D → Store → Res D) : Prop where
  run : ∀ (A : Around) (outer : List Env) (s : Shared) (H : Hp) (args : Args) (us : List Value) (vs : List V) (ds : List D) (W : Wd) (st : Store) (E : XK), Room k A → Env0 P w K mg base A outer s H → BindsTo s fd args (ps.zip us) → Vals vs us → vs.length = ps.length → Rls K L W ds vs → Sok K L W st H → nt ds st = .ok (.bl true) st →
    codeAny (model P w) A (.call (.ref f) args) (fun r s' => match r with
      | .ok (.ret u) => u = .notImplemented ∧ CE outer P w H s (fun v H' => v = .non ∧ ∃ W', W.le W' ∧ Sok K L W' st H') .none s'
      | .ok _ => False
      | .error e => L2.CX P w outer H s E e s') s
structure FOk (L : Lw) (P : Program) (w : World) (K : PySem.W.Frag) (mg : Str → Option Value) (base : Heap) (k : Nat) (c : Fn) : Prop where
  fn : ∀ f, L.isF f = true → FnOk P w K mg base (L2.CX P w) k (L.fad f) (L.fdt f) (L.fps f) (spM K L (L.fps f).length (c f))
  kp : ∀ f, L.isF f = true → PySem.W.keepIn K (.ref (L.fad f)) = true
  fi : ∀ f, L.isF f = true → PySem.W.fnIn K (L.fad f) = true
  bt : ∀ f, L.isF f = true → ∀ t ∈ L.dfl f, ∃ dvs dsV, Binds K (L.fdt f) (L.fps f) dsV ∧ Vals dvs dsV ∧ ∀ W, Rls K L W t dvs
  mt : ∀ i m f, L.meth i m = some f → L.isC i = true ∧ L.isF f = true ∧ Meth K (L.cad i) (L.nm m) (L.fad f)
  mi : ∀ i f, L.meth i 37 = some f → Mk K (L.cad i) (L.fad f)
  pr : ∀ i m f, L.prop i m = some f → L.isC i = true ∧ L.isF f = true ∧ ∃ p, PropOf K (L.cad i) (L.nm m) p (L.fad f)
  cl : ∀ i, L.isC i = true → ClsOk K (L.cad i)
  la : ∀ i g, g ∈ L.lay i → g ∈ L.atn i
  ly : ∀ i g, L.isC i = true → g ∈ L.atn i → NoAttr K (L.cad i) (L.nm g)
  li : ∀ i g h, L.isC i = true → g ∈ L.atn i → h ∈ L.atn i → L.nm g = L.nm h → g = h
  lm : ∀ i g m f, g ∈ L.atn i → L.meth i m = some f → L.nm g ≠ L.nm m
  ci : ∀ i j, L.isC i = true → L.isC j = true → L.cad i = L.cad j → i = j
  nm : ∀ n, n ≠ 0 → n < 40 → nameOf n ≠ "" → L.nm n = nameOf n
  bi : ∀ (op : Operator), opn op ≠ 0 → ∃ fo ro, PySem.W.findIn K (.type "int") (PySem.dunder op.info.2) = some fo ∧ PySem.W.findIn K (.type "int") (dunderR op.info.2) = some ro
  /-- an operator's names in a class: a def of one's own or none -/
  rf : ∀ i (op : Operator), L.isC i = true → opn op ≠ 0 → ∃ rc, PySem.W.findIn K (.ref (L.cad i)) (dunderR op.info.2) = some rc ∧ (rc = none ∨ ∃ g : Addr, rc = some (.ref g))
  /-- no class of these is within another -/
  sb : ∀ i j, L.isC i = true → L.isC j = true → i ≠ j → PySem.W.subIn K (.ref (L.cad i)) (.ref (L.cad j)) = some false ∧ L.cad i ≠ L.cad j
  sT : ∀ i, L.isC i = true → PySem.W.subIn K (.type "int") (.ref (L.cad i)) = some false ∧ PySem.W.subIn K (.ref (L.cad i)) (.type "int") = some false
  /-- what every class has from object -/
  ob : ∀ i, L.isC i = true → PySem.W.mroIn K (L.cad i) (.type "object") = some true
  oc : ∀ i, L.isC i = true → PySem.W.findIn K (.ref (L.cad i)) "__class__" = some (some (.builtin "object.__class__"))
  og : PySem.W.specialIn K (.builtin "object.__class__") "__get__" = some (some (.builtin "getset_descriptor.__get__"))
  ot : PySem.W.takesIn K (.builtin "object.__class__") = some true
  ne : ∀ i f, L.meth i 21 = some f → PySem.W.findIn K (.ref (L.cad i)) "__ne__" = some (some (.builtin "object.__ne__"))
  tb : ∀ i, L.isC i = true → L.meth i 34 = none → L.meth i 38 = none → PySem.W.findIn K (.ref (L.cad i)) "__bool__" = some none ∧ PySem.W.findIn K (.ref (L.cad i)) "__len__" = some none
  /-- isinstance -/
  ko : ∀ i j, L.isC i = true → L.isC j = true → PySem.W.kitOne K (.ref (L.cad i)) (.ref (L.cad j)) = some (L.sub i j)
  kt : ∀ j t, L.isC j = true → t ∈ kinds → PySem.W.kitOne K (.type t) (.ref (L.cad j)) = some false
  kb : ∀ i t, L.isC i = true → t ∈ kinds → PySem.W.kitOne K (.ref (L.cad i)) (.type t) = some false
  no : ∀ f, L.isF f = true → NiOk L P w K mg base k (L.fad f) (L.fdt f) (L.fps f) (c (f + niB))
structure Gd (L : Lw) (X : Cx) (Wx : WX) (k : Nat) (c : Fn) : Prop where
  fo : FOk L X.prog X.w X.K X.mg X.base k c
  room : Room (k + 9) X.A
  tk : Takes X Wx
  calm : X.calm = true
  po : PassesOwn (model X.prog X.w) X.A X.env X.xe
  nd : X.N.Nodup
theorem NiOk.none {L : Lw} {P : Program} {w : World} {K : PySem.W.Frag} {mg : Str → Option Value} {base : Heap} {k : Nat} {f : Addr} {fd : FuncData} {ps : List Str} {nt : List D → Store → Res D} (h : ∀ ds st, nt ds st ≠ .ok (.bl true) st) : NiOk L P w K mg base k f fd ps nt :=
  ⟨fun A outer s H args us vs ds W st E _ _ _ _ _ _ _ hn => absurd hn (h ds st)⟩
section
variable {L : Lw} {X : Cx} {Wx : WX} {k : Nat} {c : Fn}
theorem Gd.sub (G : Gd L X Wx k c) : Sub X (k + 9) X.A := ⟨G.room, rfl⟩
theorem Gd.callC (G : Gd L X Wx k c) {A : Around} (sb : Sub X k A) {f : Nat} (hf : L.isF f = true) {pins : List (Addr × Obj)} {s : Shared} {σ : St} {H : Hp} {W : Wd} {st : Store} {ds : List D} {vs : List V} {us : List Value} {Q : VK} (I : Inv X pins σ H s) (S : Sok X.K L W st H)
    (R : Rls X.K L W ds vs) (r : Vals vs us) (o : Out X.K L Wx W σ (okE X.K L Q) (callD L.toLs c f ds st)) :
    codeAny (model X.prog X.w) A (.call (.ref (L.fad f)) ⟨us, []⟩) (fun r s' => match r with | .ok (.ret v) => EP X pins σ Q v s' | .ok _ => False | .error e => X.xe e s') s := by
  obtain ⟨t, ht, hl, ec⟩ := callD_some (T := L.toLs) (c := c) (f := f) (ds := ds) (st := st) fun z => by rw [z] at o; exact o
  rw [ec] at o
  obtain ⟨dvs, dsV, hb, hd, hT⟩ := G.fo.bt f hf t ht
  have R2 := R.append (hT W)
  have r2 : Vals (vs ++ dvs) (us ++ dsV) := r.append hd
  have hl' : (ds ++ t).length = (L.fps f).length := by rw [List.length_append]; exact hl
  have hsp : spM X.K L (L.fps f).length (c f) (vs ++ dvs) H Q (WE Wx σ) := by
    refine ⟨by rw [← R2.length]; exact hl', ds ++ t, W, st, R2, S, ?_⟩
    revert o
    cases c f (ds ++ t) st with
    | ok d st' => exact id
    | err x st' => exact id
    | stuck => exact id
  have e0 : Env0 X.prog X.w X.K X.mg X.base A X.stack s H := by
    have e := I.env0
    exact ⟨by rw [sb.fr]; exact e.frames, e.mod, e.bs, e.bsz, e.funs, e.frf, e.hok, e.bare⟩
  have hl2 : (us ++ dsV).length = (L.fps f).length := by rw [← r2.length, ← R2.length]; exact hl'
  refine codeAny_mono ((G.fo.fn f hf).run A X.stack s H ⟨us, []⟩ (us ++ dsV) (vs ++ dvs) Q (WE Wx σ) sb.room e0 (hb s us I.kIn hl2) r2 hsp) fun r s' hq => ?_
  cases r with
  | error e => exact passAt G.tk σ pins H s e s' I hq
  | ok fl =>
    cases fl with
    | ret u => exact I.after hq
    | next => exact False.elim hq
    | brk => exact False.elim hq
    | cont => exact False.elim hq
theorem Gd.callA (G : Gd L X Wx k c) {A : Around} (sb : Sub X k A) {f : Nat} (hf : L.isF f = true) {pins : List (Addr × Obj)} {s : Shared} {σ : St} {H : Hp} {W : Wd} {st : Store} {ds : List D} {vs : List V} {us : List Value} {Q : VK} (I : Inv X pins σ H s) (S : Sok X.K L W st H)
    (R : Rls X.K L W ds vs) (r : Vals vs us) (o : Out X.K L Wx W σ (okE X.K L Q) (callD L.toLs c f ds st)) :
    wpAny (model X.prog X.w) A (PySem.call (.ref (L.fad f)) us) (EP X pins σ Q) X.xe s := wpAny_call (G.callC sb hf I S R r o)
theorem Gd.call (G : Gd L X Wx k c) {f : Nat} (hf : L.isF f = true) {pins : List (Addr × Obj)} {s : Shared} {σ : St} {H : Hp} {W : Wd} {st : Store} {ds : List D} {vs : List V} {us : List Value} {Q : VK} (I : Inv X pins σ H s) (S : Sok X.K L W st H)
    (R : Rls X.K L W ds vs) (r : Vals vs us) (o : Out X.K L Wx W σ (okE X.K L Q) (callD L.toLs c f ds st)) :
    wpAny (model X.prog X.w) X.A (PySem.call (.ref (L.fad f)) us) (EP X pins σ Q) X.xe s :=
  G.callA ⟨G.room.mono (Nat.le_add_right k 9), rfl⟩ hf I S R r o
end
section
variable {L : Lw} {X : Cx} {Wx : WX} {k : Nat} {c : Fn}
end
end Gm
namespace Gm
open PySem PySem.Spec PySem.Calls PyProof.Rows PySem.W
structure IntOp (op : Operator) (B : Builtin) (id : String) : Prop where
  slot : Slot "int" (PySem.dunder op.info.2) id
  fills : fillsNumberSlot (.type "int") op.info.2 = pure true
  entry : entryFor table id = some B
  args : ∀ a b, argsOk id ⟨[a, b], []⟩
  no : ∀ (a : Int) (t : Tok) (l C dx : Addr), Meets (B ⟨[.int a t, .ref l], []⟩) (fun _ R s => s.heap.get? l = some (instObj C dx) ∧ R (.ok (.ret Value.notImplemented)) s)
section
variable {prog : Program} {w : World} {A : Around} {E : Value → Shared → Prop} {s : Shared} {K : Frag} {x C C2 L f : Addr} {h₀ : Heap} {m : Str → Option Value} {ox : Obj} {od : Option Obj}
end
section
variable {prog : Program} {w : World} {A : Around} {E : Value → Shared → Prop} {s : Shared} {K : Frag} {x C C2 L f g g2 : Addr} {h₀ : Heap} {m : Str → Option Value} {ox : Obj} {od : Option Obj}
end
namespace IC
open PySem.W PySem.Calls
structure IntCmp (op : CmpOp) (B : Builtin) (id : String) : Prop where
  slot : Slot "int" (cmpInfo op).2.1 id
  entry : entryFor table id = some B
  args : ∀ a b, argsOk id ⟨[a, b], []⟩
  no : ∀ (a : Int) (t : Tok) (l C dx : Addr), Meets (B ⟨[.int a t, .ref l], []⟩) (fun _ R s => s.heap.get? l = some (instObj C dx) ∧ R (.ok (.ret Value.notImplemented)) s)
section
variable {prog : Program} {w : World} {A : Around} {E : Value → Shared → Prop} {s : Shared} {K : Frag} {C L f : Addr} {h₀ : Heap} {m : Str → Option Value}
end
end IC
end Gm
namespace Gm
open PySem PySem.Spec PyProof.Rows L2
mutual
def noRef (n : Nat) : D → Bool
  | .ref m => decide (m < n)
  | .tup ds => noRefs n ds
  | .obj _ ds => noRefs n ds
  | _ => true
def noRefs (n : Nat) : List D → Bool
  | [] => true
  | d :: ds => noRef n d && noRefs n ds
end
@[simp] theorem noRefs_nil (n : Nat) : noRefs n [] = true := by unfold noRefs; rfl
@[simp] theorem noRefs_cons (n : Nat) (d : D) (ds : List D) : noRefs n (d :: ds) = (noRef n d && noRefs n ds) := by rw [noRefs]
@[simp] theorem noRef_tup (n : Nat) (ds : List D) : noRef n (.tup ds) = noRefs n ds := by rw [noRef]
@[simp] theorem noRef_obj (n c : Nat) (ds : List D) : noRef n (.obj c ds) = noRefs n ds := by rw [noRef]
@[simp] theorem noRef_ref (n m : Nat) : noRef n (.ref m) = decide (m < n) := by rw [noRef]
@[simp] theorem noRef_int (n : Nat) (i : Int) : noRef n (.int i) = true := by simp [noRef]
@[simp] theorem noRef_bl (n : Nat) (i : Bool) : noRef n (.bl i) = true := by simp [noRef]
@[simp] theorem noRef_str (n : Nat) (i : Str) : noRef n (.str i) = true := by simp [noRef]
@[simp] theorem noRef_fn (n f : Nat) : noRef n (.fn f) = true := by simp [noRef]
@[simp] theorem noRef_non (n : Nat) : noRef n .non = true := by simp [noRef]
def noRefC (n : Nat) : Cell → Bool
  | .lst ds => noRefs n ds
  | .rol ds => noRefs n ds
  | .dic kvs => noRefs n (kvs.map (·.2))
  | .ins _ fs => noRefs n (fs.map (·.2))
  | .dead => true
  | .clo _ _ _ => true
section
variable {K : PySem.W.Frag} {L : Lw} {W W' : Wd}
mutual
theorem Rl.known : ∀ {d : D} {v : V}, Rl K L W d v → noRef W.io.length d = true
  | .non, _, _ => by simp
  | .bl _, _, _ => by simp
  | .int _, _, _ => by simp
  | .str _, _, _ => by simp
  | .tup ds, v, h => by
    obtain ⟨a, vs, _, _, h2⟩ := Rl.tup.mp h
    rw [noRef_tup]; exact Rls.known h2
  | .obj c ds, v, h => by
    obtain ⟨a, dx, vs, _, _, _, h2⟩ := Rl.obj.mp h
    rw [noRef_obj]; exact Rls.known h2
  | .ref n, v, h => by
    obtain ⟨a, _, h2⟩ := Rl.ref.mp h
    rw [noRef_ref, decide_eq_true_eq]
    exact (List.getElem?_eq_some_iff.mp h2).1
  | .fn _, _, _ => by simp
theorem Rls.known : ∀ {ds : List D} {vs : List V}, Rls K L W ds vs → noRefs W.io.length ds = true
  | [], _, _ => by simp
  | d :: ds, vs, h => by
    obtain ⟨v, vs', _, h1, h2⟩ := Rls.cons.mp h
    rw [noRefs_cons, Rl.known h1, Rls.known h2]; rfl
end
mutual
theorem Rl.cut {n : Nat} (hf : W'.fz = W.fz) (hi : ∀ m a, m < n → W.io[m]? = some a → W'.io[m]? = some a) : ∀ {d : D} {v : V}, noRef n d = true → Rl K L W d v → Rl K L W' d v
  | .non, _, _, h => Rl.non.mpr (Rl.non.mp h)
  | .bl _, _, _, h => Rl.bl.mpr (Rl.bl.mp h)
  | .int _, _, _, h => Rl.int.mpr (Rl.int.mp h)
  | .str _, _, _, h => Rl.str.mpr (Rl.str.mp h)
  | .tup ds, v, q, h => by
    obtain ⟨a, vs, e, h1, h2⟩ := Rl.tup.mp h
    rw [noRef_tup] at q
    exact Rl.tup.mpr ⟨a, vs, e, by rw [hf]; exact h1, Rls.cut hf hi q h2⟩
  | .obj c ds, v, q, h => by
    obtain ⟨a, dx, vs, e, h1, h3, h2⟩ := Rl.obj.mp h
    rw [noRef_obj] at q
    exact Rl.obj.mpr ⟨a, dx, vs, e, by rw [hf]; exact h1, h3, Rls.cut hf hi q h2⟩
  | .ref m, v, q, h => by
    obtain ⟨a, e, h2⟩ := Rl.ref.mp h
    rw [noRef_ref, decide_eq_true_eq] at q
    exact Rl.ref.mpr ⟨a, e, hi m a q h2⟩
  | .fn _, _, _, h => Rl.fn.mpr (Rl.fn.mp h)
theorem Rls.cut {n : Nat} (hf : W'.fz = W.fz) (hi : ∀ m a, m < n → W.io[m]? = some a → W'.io[m]? = some a) : ∀ {ds : List D} {vs : List V}, noRefs n ds = true → Rls K L W ds vs → Rls K L W' ds vs
  | [], _, _, h => Rls.nil.mpr (Rls.nil.mp h)
  | d :: ds, vs, q, h => by
    obtain ⟨v, vs', e, h1, h2⟩ := Rls.cons.mp h
    rw [noRefs_cons, Bool.and_eq_true] at q
    exact Rls.cons.mpr ⟨v, vs', e, Rl.cut hf hi q.1 h1, Rls.cut hf hi q.2 h2⟩
end
theorem RKv.cut {n : Nat} (hf : W'.fz = W.fz) (hi : ∀ m a, m < n → W.io[m]? = some a → W'.io[m]? = some a) {kvs : List (Key × D)} {vs : List (Key × V)} (h : RKv K L W kvs vs) : noRefs n (kvs.map (·.2)) = true → RKv K L W' kvs vs := by
  induction h with
  | nil => exact fun _ => .nil
  | cons r _ ih =>
    intro q
    rw [List.map_cons, noRefs_cons, Bool.and_eq_true] at q
    exact .cons (r.cut hf hi q.1) (ih q.2)
theorem RKv.known {kvs : List (Key × D)} {vs : List (Key × V)} (h : RKv K L W kvs vs) : noRefs W.io.length (kvs.map (·.2)) = true := by
  induction h with
  | nil => simp
  | cons r _ ih => rw [List.map_cons, noRefs_cons, r.known, ih]; rfl
theorem CellR.known {H : Hp} {a : Addr} {c : Cell} (h : CellR K L W H a c) : noRefC W.io.length c = true := by
  cases c with
  | lst ds => obtain ⟨vs, _, h2⟩ := h; exact h2.known
  | rol ds => obtain ⟨vs, _, h2⟩ := h; exact h2.known
  | dic ds => obtain ⟨vs, _, h2⟩ := h; exact h2.known
  | ins c ds => obtain ⟨_, vs, _, h2⟩ := h; exact h2.known
  | dead => rfl
  | clo _ _ _ => rfl
theorem CellR.cut {n : Nat} (hf : W'.fz = W.fz) (hi : ∀ m a, m < n → W.io[m]? = some a → W'.io[m]? = some a) {H : Hp} {a : Addr} {c : Cell} (q : noRefC n c = true) (h : CellR K L W H a c) : CellR K L W' H a c := by
  cases c with
  | lst ds => obtain ⟨vs, h1, h2⟩ := h; exact ⟨vs, h1, h2.cut hf hi q⟩
  | rol ds => obtain ⟨vs, h1, h2⟩ := h; exact ⟨vs, h1, h2.cut hf hi q⟩
  | dic ds => obtain ⟨vs, h1, h2⟩ := h; exact ⟨vs, h1, h2.cut hf hi q⟩
  | ins c ds => obtain ⟨dx, vs, h1, h2⟩ := h; exact ⟨dx, vs, h1, h2.cut hf hi q⟩
  | dead => trivial
  | clo _ _ _ => obtain ⟨c', h1, h2⟩ := h; exact ⟨c', by rw [hf]; exact h1, by rw [hf]; exact h2⟩
end
def Kept (st st' : Store) : Prop := ∀ i c, i < st.length → st'[i]? = some c → st[i]? = some c ∨ noRefC st.length c = true
theorem Kept.rfl' (st : Store) (e : Store) : Kept st (st ++ e) := fun i c hi h => by
  rw [List.getElem?_append_left hi] at h; exact .inl h
theorem Kept.set (st : Store) (n : Nat) (c : Cell) (e : Store) (hc : noRefC st.length c = true) : Kept st (st.set n c ++ e) := fun i x hi h => by
  rw [List.getElem?_append_left (by rw [List.length_set]; exact hi)] at h
  by_cases hn : n = i
  · subst hn
    rw [List.getElem?_set_self hi] at h; cases h
    exact .inr hc
  · rw [List.getElem?_set_ne hn] at h
    exact .inl h
open Classical in
noncomputable def tidy (st : Store) (r : Res D) : Res D := match r with
  | .ok d st' =>
    if Kept st st' then
      if noRef st.length d = true then .ok d (st'.take st.length)
      else match d with
        | .ref m => match st'[m]? with
          | some (.lst ds) => if noRefs st.length ds = true then .ok (.ref st.length) (st'.take st.length ++ [.lst ds]) else .ok d st'
          | some (.dic ds) => if noRefs st.length (ds.map (·.2)) = true then .ok (.ref st.length) (st'.take st.length ++ [.dic ds]) else .ok d st'
          | _ => .ok d st'
        | _ => .ok d st'
    else .ok d st'
  | .err x st' => if Kept st st' ∧ noRefs st.length x.ds = true then .err x (st'.take st.length) else .err x st'
  | .stuck => .stuck
section
variable {K : PySem.W.Frag} {L : Lw} {W W' : Wd} {st st' : Store} {H H' : Hp}
theorem Sok.trunc (s : Sok K L W st H) (s' : Sok K L W' st' H') (e : W.le W') (hk : Kept st st') : W.le ⟨W'.fz, W'.io.take st.length⟩ ∧ Sok K L ⟨W'.fz, W'.io.take st.length⟩ (st'.take st.length) H' ∧
    ∀ m a, m < st.length → W'.io[m]? = some a → (⟨W'.fz, W'.io.take st.length⟩ : Wd).io[m]? = some a := by
  have hi : ∀ m a, m < st.length → W'.io[m]? = some a → (⟨W'.fz, W'.io.take st.length⟩ : Wd).io[m]? = some a := fun m a hm h => by
    show (W'.io.take st.length)[m]? = some a
    rw [List.getElem?_take_of_lt hm]; exact h
  have back : ∀ {n x}, (st'.take st.length)[n]? = some x → n < st.length ∧ st'[n]? = some x := fun {n x} h => by
    have hl : n < (st'.take st.length).length := (List.getElem?_eq_some_iff.mp h).1
    rw [List.length_take] at hl
    have hn : n < st.length := by omega
    rw [List.getElem?_take_of_lt hn] at h
    exact ⟨hn, h⟩
  have backI : ∀ {n : Nat} {a : Addr}, (W'.io.take st.length)[n]? = some a → W'.io[n]? = some a := fun {n a} h => by
    have hl : n < (W'.io.take st.length).length := (List.getElem?_eq_some_iff.mp h).1
    rw [List.length_take] at hl
    rwa [List.getElem?_take_of_lt (by omega)] at h
  refine ⟨⟨e.1, fun m a h => ?_⟩, ⟨s'.fz, ?_, fun n c a h1 h2 => ?_, fun n c a h1 h2 h3 => ?_, fun m n c c' a h1 h2 l1 l2 h3 h4 => ?_, s'.nt, s'.tb⟩, hi⟩
  · have hm : m < st.length := by rw [s.len]; exact (List.getElem?_eq_some_iff.mp h).1
    exact hi m a hm (e.2 m a h)
  · show (st'.take st.length).length = (W'.io.take st.length).length
    rw [List.length_take, List.length_take, s'.len]
  · obtain ⟨hn, h1⟩ := back h1
    have h2 := backI h2
    refine CellR.cut (W := W') (n := st.length) (by rfl) hi ?_ (s'.cell n c a h1 h2)
    rcases hk n c hn h1 with h | h
    · have hl : n < W.io.length := by rw [← s.len]; exact hn
      have := (s.cell n c _ h (List.getElem?_eq_getElem hl)).known
      rwa [← s.len] at this
    · exact h
  · exact s'.ap n c a (back h1).2 h2 (backI h3)
  · exact s'.inj m n c c' a (back h1).2 (back h2).2 l1 l2 (backI h3) (backI h4)
theorem Sok.trunc1 (s : Sok K L W st H) (s' : Sok K L W' st' H') (e : W.le W') (hk : Kept st st') {m : Nat} {a : Addr} {c : Cell} (hm : st.length ≤ m) (hc : st'[m]? = some c) (ha : W'.io[m]? = some a) (hl : c.live = true) (hr : noRefC st.length c = true) :
    W.le ⟨W'.fz, W'.io.take st.length ++ [a]⟩ ∧ Sok K L ⟨W'.fz, W'.io.take st.length ++ [a]⟩ (st'.take st.length ++ [c]) H' ∧ (W'.io.take st.length).length = st.length := by
  obtain ⟨e1, s1, hi⟩ := s.trunc s' e hk
  have hlen : (st'.take st.length).length = st.length := by
    rw [List.length_take]
    have := (List.getElem?_eq_some_iff.mp hc).1
    omega
  have hlenI : (W'.io.take st.length).length = st.length := by
    have z : (st'.take st.length).length = (W'.io.take st.length).length := s1.len
    rw [← z]; exact hlen
  have hi' : ∀ m a', m < st.length → W'.io[m]? = some a' → (⟨W'.fz, W'.io.take st.length ++ [a]⟩ : Wd).io[m]? = some a' := fun m a' hm h => by
    show (W'.io.take st.length ++ [a])[m]? = some a'
    rw [List.getElem?_append_left (by rw [hlenI]; exact hm)]
    exact hi m a' hm h
  have split : ∀ {n x b}, (st'.take st.length ++ [c])[n]? = some x → (W'.io.take st.length ++ [a])[n]? = some b → (n < st.length ∧ (st'.take st.length)[n]? = some x ∧ (W'.io.take st.length)[n]? = some b) ∨ (n = st.length ∧ x = c ∧ b = a) := fun {n x b} h1 h2 => by
    by_cases hn : n < st.length
    · rw [List.getElem?_append_left (by rw [hlen]; exact hn)] at h1
      rw [List.getElem?_append_left (by rw [hlenI]; exact hn)] at h2
      exact .inl ⟨hn, h1, h2⟩
    · have hl2 : n < (st'.take st.length ++ [c]).length := (List.getElem?_eq_some_iff.mp h1).1
      rw [List.length_append, List.length_singleton, hlen] at hl2
      have hn' : n = st.length := by omega
      subst hn'
      rw [List.getElem?_append_right (by rw [hlen]; exact Nat.le_refl _), hlen, Nat.sub_self] at h1
      rw [List.getElem?_append_right (by rw [hlenI]; exact Nat.le_refl _), hlenI, Nat.sub_self] at h2
      simp at h1 h2
      exact .inr ⟨rfl, h1.symm, h2.symm⟩
  have old : ∀ {n x b}, (st'.take st.length)[n]? = some x → (W'.io.take st.length)[n]? = some b → n < st.length → st'[n]? = some x ∧ W'.io[n]? = some b := fun {n x b} h1 h2 hn => by
    rw [List.getElem?_take_of_lt hn] at h1 h2
    exact ⟨h1, h2⟩
  refine ⟨⟨e1.1, fun n b h => ?_⟩, ⟨s1.fz, ?_, fun n x b h1 h2 => ?_, fun n x b h1 h2 h3 => ?_, fun p n x y b h1 h2 l1 l2 h3 h4 => ?_, s1.nt, s1.tb⟩, hlenI⟩
  · have hn : n < st.length := by rw [s.len]; exact (List.getElem?_eq_some_iff.mp h).1
    exact hi' n b hn (e.2 n b h)
  · show (st'.take st.length ++ [c]).length = (W'.io.take st.length ++ [a]).length
    rw [List.length_append, List.length_append, hlen, hlenI]; rfl
  · rcases split h1 h2 with ⟨hn, g1, g2⟩ | ⟨_, rfl, rfl⟩
    · have kn : noRefC st.length x = true := by
        rcases hk n x hn (old g1 g2 hn).1 with h | h
        · have hl : n < W.io.length := by rw [← s.len]; exact hn
          have := (s.cell n x _ h (List.getElem?_eq_getElem hl)).known
          rwa [← s.len] at this
        · exact h
      exact CellR.cut (W := W') (n := st.length) (by rfl) hi' kn (s'.cell n x b (old g1 g2 hn).1 (old g1 g2 hn).2)
    · exact CellR.cut (W := W') (n := st.length) (by rfl) hi' hr (s'.cell m x b hc ha)
  · rcases split h1 h3 with ⟨hn, g1, g2⟩ | ⟨_, rfl, rfl⟩
    · exact s'.ap n x b (old g1 g2 hn).1 h2 (old g1 g2 hn).2
    · exact s'.ap m x b hc h2 ha
  · rcases split h1 h3 with ⟨hn, g1, g2⟩ | ⟨rfl, rfl, rfl⟩
    · rcases split h2 h4 with ⟨hn2, g3, g4⟩ | ⟨rfl, rfl, rfl⟩
      · exact s'.inj p n x y b (old g1 g2 hn).1 (old g3 g4 hn2).1 l1 l2 (old g1 g2 hn).2 (old g3 g4 hn2).2
      · have := s'.inj p m x y b (old g1 g2 hn).1 hc l1 l2 (old g1 g2 hn).2 ha
        omega
    · rcases split h2 h4 with ⟨hn2, g3, g4⟩ | ⟨rfl, rfl, _⟩
      · have := s'.inj m n x y b hc (old g3 g4 hn2).1 l1 l2 ha (old g3 g4 hn2).2
        omega
      · rfl
theorem tidy_ok {Wx : WX} {σ : St} {Q : VK} {r : Res D} (s : Sok K L W st H) (o : Out K L Wx W σ (okE K L Q) (tidy st r)) : Out K L Wx W σ (okE K L Q) r := by
  cases r with
  | stuck => exact o
  | err x st' =>
    intro W' H' cls dx e S' R
    unfold tidy at o
    simp only at o
    split at o
    · rename_i h
      obtain ⟨e2, S2, hi⟩ := s.trunc S' e h.1
      refine o _ H' cls dx e2 S2 ⟨R.1, ?_⟩
      rcases R.2 with h2 | ⟨d, vs, h2, h3, h4, h5⟩
      · exact .inl h2
      · exact .inr ⟨d, vs, h2, h3, h4, Rls.cut (W := W') (n := st.length) (by rfl) hi h.2 h5⟩
    · exact o W' H' cls dx e S' R
  | ok d st' =>
    intro W' H' e S' v R
    unfold tidy at o
    simp only at o
    split at o
    · rename_i hk
      split at o
      · rename_i hd
        obtain ⟨e2, S2, hi⟩ := s.trunc S' e hk
        exact o _ H' e2 S2 v (Rl.cut (W := W') (n := st.length) (by rfl) hi hd R)
      · rename_i hd
        split at o
        · rename_i m
          have hm : st.length ≤ m := by
            have : ¬ m < st.length := fun z => hd (by simp [z])
            omega
          obtain ⟨a, ev, ha⟩ := Rl.ref.mp R
          split at o
          · rename_i ds hc
            split at o
            · rename_i hr
              obtain ⟨e2, S2, hl⟩ := s.trunc1 S' e hk hm hc ha rfl hr
              refine o _ H' e2 S2 v (Rl.ref.mpr ⟨a, ev, ?_⟩)
              show (W'.io.take st.length ++ [a])[st.length]? = some a
              rw [List.getElem?_append_right (by rw [hl]; exact Nat.le_refl _), hl, Nat.sub_self]; rfl
            · exact o W' H' e S' v R
          · rename_i ds hc
            split at o
            · rename_i hr
              obtain ⟨e2, S2, hl⟩ := s.trunc1 S' e hk hm hc ha rfl hr
              refine o _ H' e2 S2 v (Rl.ref.mpr ⟨a, ev, ?_⟩)
              show (W'.io.take st.length ++ [a])[st.length]? = some a
              rw [List.getElem?_append_right (by rw [hl]; exact Nat.le_refl _), hl, Nat.sub_self]; rfl
            · exact o W' H' e S' v R
          · exact o W' H' e S' v R
        · exact o W' H' e S' v R
    · exact o W' H' e S' v R
end
end Gm
namespace Gm
open PySem PySem.Spec PyProof.Rows L2
def SR.seq (r : SR) (b : Fs) : SR := match r with
  | .nx ρ st => b ρ st
  | r => r
abbrev Fg := D → Ev → Store → Res Ev
section
variable {L : Lw} {X : Cx} {Wx : WX} {e : Expr} {f : Fe} {pos : Pos}
def Fram (ts : List Nat) (σ σ' : St) : Prop := σ'.length = σ.length ∧ ∀ i, i ∉ ts → σ'[i]? = σ[i]?
theorem Fram.rfl' {ts : List Nat} {σ : St} : Fram ts σ σ := ⟨rfl, fun _ _ => rfl⟩
theorem Fram.trans {ts us : List Nat} {σ σ1 σ2 : St} (a : Fram ts σ σ1) (b : Fram us σ1 σ2) : Fram (ts ++ us) σ σ2 := ⟨b.1.trans a.1, fun i h => by
  rw [List.mem_append, not_or] at h
  rw [b.2 i h.2, a.2 i h.1]⟩
structure RG (L : Lw) (X : Cx) (target : Expr) (g : Fg) (ts : List Nat) : Prop where
  run : ∀ (pins : List (Addr × Obj)) (s : Shared) (σ : St) (H : Hp) (W : Wd) (st : Store) (ρ : Ev) (d : D) (v : V) (u : Value) (ρ' : Ev) (st' : Store), Inv X pins σ H s → Sok X.K L W st H → EnR X.K L W σ ρ → Rl X.K L W d v → RelV v u → g d ρ st = .ok ρ' st' →
    wpAny (model X.prog X.w) X.A (assign target X.env u) (fun _ s' => ∃ W' σ' H', W.le W' ∧ Inv X pins σ' H' s' ∧ Sok X.K L W' st' H' ∧ EnR X.K L W' σ' ρ' ∧ Fram ts σ σ') X.xe s
structure RGs (L : Lw) (X : Cx) (tgs : List Expr) (g : List D → Ev → Store → Res Ev) (ts : List Nat) : Prop where
  run : ∀ (pins : List (Addr × Obj)) (s : Shared) (σ : St) (H : Hp) (W : Wd) (st : Store) (ρ : Ev) (ds : List D) (vs : List V) (us : List Value) (ρ' : Ev) (st' : Store), Inv X pins σ H s → Sok X.K L W st H → EnR X.K L W σ ρ → Rls X.K L W ds vs → Vals vs us → g ds ρ st = .ok ρ' st' →
    wpAny (model X.prog X.w) X.A (assignInOrder ((assignEach tgs X.env).map (·.2)) us) (fun _ s' => ∃ W' σ' H', W.le W' ∧ Inv X pins σ' H' s' ∧ Sok X.K L W' st' H' ∧ EnR X.K L W' σ' ρ' ∧ Fram ts σ σ') X.xe s
  len : ∀ ds ρ st ρ' st', g ds ρ st = .ok ρ' st' → ds.length = tgs.length
theorem EnR.set {K : PySem.W.Frag} {W : Wd} {σ : St} {ρ : Ev} {i : Nat} {d : D} {v : V} (E : EnR K L W σ ρ) (R : Rl K L W d v) : EnR K L W (σ.set i (some v)) (ρ.set i (some d)) := by
  refine ⟨by rw [List.length_set, List.length_set]; exact E.1, fun j d' h => ?_⟩
  by_cases hj : i = j
  · subst hj
    have hl : i < ρ.length := by
      have := (List.getElem?_eq_some_iff.mp h).1
      rwa [List.length_set] at this
    rw [List.getElem?_set_self hl] at h
    cases h
    exact ⟨v, by rw [List.getElem?_set_self (by rw [← E.1]; exact hl)], R⟩
  · rw [List.getElem?_set_ne hj] at h
    obtain ⟨v', h1, h2⟩ := E.2 j d' h
    exact ⟨v', by rw [List.getElem?_set_ne hj]; exact h1, h2⟩
end
section
variable {L : Lw} {X : Cx} {Wx : WX} {e : Expr} {f : Fe} {pos : Pos}
end
end Gm
namespace Gm
open PySem PySem.Spec PyProof.Rows L2
structure FunG (K : PySem.W.Frag) (x qual : Str) (st : Stmt) (f : Addr) (fd : FuncData) : Prop where
  ex : ∃ (oc : Value) (od : Option Addr) (dV kV doc pm : Value) (an : Option Addr) (cdv ct : Value) (osl : Array (Option Value)),
    fd = PySem.W.fnOf x qual (defArgs st) (defBody st) (defScope st) dV kV doc pm an cdv ct ∧ K.lookup f = some ⟨oc, od, .func fd, osl⟩ ∧ PySem.W.codeIn K cdv qual = true
section
variable {P : Program} {w : World} {K : PySem.W.Frag} {mg : Str → Option Value} {base : Heap} {L : Lw}
end

section
variable {L : Lw} {X : Cx} {Wx : WX} {k : Nat} {c : Fn} {e o fe : Expr} {es : List Expr} {f : Fe} {r : Fa} {x m : Str} {p pos apos : Pos}
def made (T : Ls) (i n : Nat) (st' : Store) : Res D := match st'[n]? with
  | some (.ins j fs) => if j = i ∧ fs.map (·.1) = T.lay i then .ok (.obj i (fs.map (·.2))) (st'.set n .dead) else .ok (.ref n) st'
  | _ => .ok (.ref n) st'
def makeR (T : Ls) (c : Fn) (i f : Nat) (ds : List D) (st : Store) : Res D := match callD T c f (.ref st.length :: ds) (st ++ [.ins i []]) with
  | .ok .non st' => made T i st.length st'
  | .ok _ _ => .stuck
  | .err x st' => .err x st'
  | .stuck => .stuck
noncomputable def mkD (T : Ls) (c : Fn) (i : Nat) (ds : List D) (st : Store) : Res D := match T.meth i 37 with
  | some f => tidy st (makeR T c i f ds st)
  | none => .stuck
theorem Gd.make (G : Gd L X Wx k c) {i : Nat} {pins : List (Addr × Obj)} {s : Shared} {σ : St} {H : Hp} {W : Wd} {st : Store} {ds : List D} {vs : List V} {us : List Value} {Q : VK} (I : Inv X pins σ H s) (S : Sok X.K L W st H)
    (R : Rls X.K L W ds vs) (r : Vals vs us) (o : Out X.K L Wx W σ (okE X.K L Q) (mkD L.toLs c i ds st)) :
    wpAny (model X.prog X.w) X.A (PySem.call (.ref (L.cad i)) us) (EP X pins σ Q) X.xe s := by
  unfold mkD at o
  cases hm : L.meth i 37 with
  | none => rw [hm] at o; exact o.elim
  | some f =>
    rw [hm] at o
    dsimp only at o
    have o2 := tidy_ok (σ := σ) S o
    clear o
    have M := G.fo.mi i f hm
    obtain ⟨hC, hf, _⟩ := G.fo.mt i 37 f hm
    have hn : callD L.toLs c f (.ref st.length :: ds) (st ++ [.ins i []]) ≠ .stuck := fun z => by unfold makeR at o2; rw [z] at o2; exact o2
    obtain ⟨t, ht, hl, ec⟩ := callD_some hn
    obtain ⟨dvs, dsV, hb, hd, hT⟩ := G.fo.bt f hf t ht
    have I2 := Inv.made (C := L.cad i) I
    have fr1 : H s.heap.objs.size = none := I.hok.fresh (Nat.le_refl _)
    have fr2 : H (s.heap.objs.size + 1) = none := I.hok.fresh (Nat.le_succ _)
    have nex : s.heap.objs.size + 1 ≠ s.heap.objs.size := Nat.succ_ne_self _
    have S1 : Sok X.K L W st (upd H s.heap.objs.size (.own (s.heap.objs.size + 1))) := S.grow (upd_grow fr1)
    have S2 := S1.alloc (p := s.heap.objs.size + 1) (o := .ins (L.cad i) s.heap.objs.size []) (c := .ins i []) (by rw [upd_ne nex]; exact fr2) ⟨s.heap.objs.size, [], upd_same, Rls.nil.mpr rfl⟩
    have R2 : Rls X.K L (W.more (s.heap.objs.size + 1)) (.ref st.length :: (ds ++ t)) (.ref (s.heap.objs.size + 1) :: (vs ++ dvs)) := Rls.mk (Rl.newRef S) ((R.mono Wd.le_more).append (hT _))
    have r2 : Vals (V.ref (s.heap.objs.size + 1) :: (vs ++ dvs)) (Value.ref (s.heap.objs.size + 1) :: (us ++ dsV)) := .cons rfl (r.append hd)
    have hl' : (D.ref st.length :: (ds ++ t)).length = (L.fps f).length := by
      rw [List.length_cons] at hl
      rw [List.length_cons, List.length_append]
      omega
    have hsp : spM X.K L (L.fps f).length (c f) (V.ref (s.heap.objs.size + 1) :: (vs ++ dvs)) (upd (upd H s.heap.objs.size (.own (s.heap.objs.size + 1))) (s.heap.objs.size + 1) (.ins (L.cad i) s.heap.objs.size []))
        (fun v H2 => v = .non ∧ Q (.ref (s.heap.objs.size + 1)) H2) (WE Wx σ) := by
      refine ⟨by rw [← R2.length]; exact hl', _, _, _, R2, S2, ?_⟩
      unfold makeR at o2
      rw [ec] at o2
      have ecs : D.ref st.length :: (ds ++ t) = D.ref st.length :: ds ++ t := rfl
      rw [ecs]
      cases q : c f (D.ref st.length :: ds ++ t) (st ++ [.ins i []]) with
      | err x st' =>
        rw [q] at o2
        exact fun W' H' cls dx e' S' R' => o2 W' H' cls dx (Wd.le_more.trans e') S' R'
      | stuck => rw [q] at o2; exact o2
      | ok d st' =>
        rw [q] at o2
        cases d with
        | non =>
          intro W' H' e' S' v Rv
          refine ⟨Rl.non.mp Rv, ?_⟩
          have ha : W'.io[st.length]? = some (s.heap.objs.size + 1) := e'.2 _ _ (by
            show (W.io ++ [s.heap.objs.size + 1])[st.length]? = _
            rw [S.len, List.getElem?_concat_length])
          have asRef : Out X.K L Wx W σ (okE X.K L Q) (.ok (.ref st.length) st') → Q (.ref (s.heap.objs.size + 1)) H' := fun o3 => o3 W' H' (Wd.le_more.trans e') S' _ (Rl.ref.mpr ⟨_, rfl, ha⟩)
          dsimp only at o2
          unfold made at o2
          cases q2 : st'[st.length]? with
          | none => rw [q2] at o2; exact asRef o2
          | some cl =>
            rw [q2] at o2
            cases cl with
            | ins j fs =>
              dsimp only at o2
              by_cases hj : j = i ∧ fs.map (·.1) = L.lay i
              · rw [if_pos hj] at o2
                obtain ⟨rfl, hfs⟩ := hj
                obtain ⟨W2, e2, S3, R3⟩ := S'.finish q2 ha hfs
                exact o2 W2 H' ((Wd.le_more.trans e').trans e2) S3 _ R3
              · rw [if_neg hj] at o2
                exact asRef o2
            | lst _ => exact asRef o2
            | rol _ => exact asRef o2
            | dic _ => exact asRef o2
            | dead => exact asRef o2
            | clo _ _ _ => exact asRef o2
        | _ => exact o2.elim
    have hl3 : (Value.ref (s.heap.objs.size + 1) :: us ++ dsV).length = (L.fps f).length := by
      have e := r2.length
      rw [← R2.length, hl'] at e
      exact e.symm
    have hr : Room (k + 1) X.A := G.room.mono (by omega)
    refine wpAny_call (make_map (f := L.fad f) I.kIn M.makes M.init (beq_iff_eq.mp M.fn) (codeAny_mono ((G.fo.fn f hf).run _ X.stack _ _ ⟨Value.ref (s.heap.objs.size + 1) :: us, []⟩ (Value.ref (s.heap.objs.size + 1) :: (us ++ dsV)) _ _ (WE Wx σ) (hr.make (L.cad i) us [])
      (I2.env0.make (L.cad i) us []) (hb _ (Value.ref (s.heap.objs.size + 1) :: us) I2.kIn hl3) r2 hsp) fun r s' hq' => ?_))
    cases r with
    | error e => exact passAt G.tk σ pins _ _ e s' I2 hq'
    | ok fl =>
      cases fl with
      | ret u =>
        obtain ⟨v, H', I3, rv, ev, q3⟩ := I2.after hq'
        subst ev
        exact ⟨rv, ⟨V.ref (s.heap.objs.size + 1), H', I3, rfl, q3⟩⟩
      | next => exact False.elim hq'
      | brk => exact False.elim hq'
      | cont => exact False.elim hq'
end
end Gm
namespace Gm
open PySem PySem.Spec PyProof.Rows L2
def pyD : Nat → Store → D → Option PyData
  | 0, _, _ => none
  | n + 1, st, d => match d with
    | .non => some .none
    | .bl b => some (.bool b)
    | .int i => some (.int i)
    | .str x => some (.str x)
    | .tup ds => (ds.mapM (pyD n st)).map .tuple
    | .ref m => match st[m]? with
      | some (.lst ds) => (ds.mapM (pyD n st)).map .list
      | _ => none
    | .obj _ _ => none
    | .fn _ => none
section
variable {K : PySem.W.Frag} {L : Lw} {W : Wd} {st : Store} {H : Hp}
end
mutual
def okC (T : Ls) : D → Bool
  | .ref _ => false
  | .fn _ => false
  | .tup ds => okCs T ds
  | .obj c ds => T.isC c && okCs T ds
  | _ => true
def okCs (T : Ls) : List D → Bool
  | [] => true
  | d :: ds => okC T d && okCs T ds
end
@[simp] theorem okCs_cons (T : Ls) (d : D) (ds : List D) : okCs T (d :: ds) = (okC T d && okCs T ds) := by rw [okCs]
@[simp] theorem okC_tup (T : Ls) (ds : List D) : okC T (.tup ds) = okCs T ds := by rw [okC]
@[simp] theorem okC_obj (T : Ls) (c : Nat) (ds : List D) : okC T (.obj c ds) = (T.isC c && okCs T ds) := by rw [okC]
@[simp] theorem okC_ref (T : Ls) (m : Nat) : okC T (.ref m) = false := by rw [okC]
@[simp] theorem okC_fn (T : Ls) (m : Nat) : okC T (.fn m) = false := by rw [okC]
noncomputable def itemR (T : Ls) (d1 d2 : D) (st : Store) (r : Res Bool) : Res Bool := match r with
  | .ok b st' => open Classical in if okC T d1 = true ∧ okC T d2 = true ∧ (d1 = d2 → b = true ∧ st' = st) then .ok b st' else .stuck
  | .err x st' => open Classical in if okC T d1 = true ∧ okC T d2 = true ∧ d1 ≠ d2 then .err x st' else .stuck
  | .stuck => .stuck
noncomputable def eqAll (T : Ls) (q : D → D → Store → Res Bool) : List D → List D → Store → Res Bool
  | [], [], st => .ok true st
  | [], _ :: _, st => .ok false st
  | _ :: _, [], st => .ok false st
  | x :: xs, y :: ys, st => (itemR T x y st (q x y st)).bind fun b st => if b then eqAll T q xs ys st else .ok false st
open Classical in
noncomputable def eqLs (T : Ls) (q : D → D → Store → Res Bool) (st : Store) : List D → List D → Res Bool
  | x :: xs, y :: ys => match itemR T x y st (q x y st) with
    | .ok b st' => if st' = st then (if b then eqLs T q st xs ys else .ok false st) else .stuck
    | _ => .stuck
  | _, _ => .ok true st
def asB (d : D) (st : Store) : Res Bool := match d with
  | .bl b => .ok b st
  | _ => .stuck
def rhs (T : Ls) : D → Bool
  | .obj j _ => T.isC j
  | .ref _ => false
  | .fn _ => false
  | _ => true
def isL (d : D) (st : Store) : Bool := match d with
  | .ref n => match st[n]? with
    | some (.lst _) => true
    | _ => false
  | _ => false
def rhsL (T : Ls) (d : D) (st : Store) : Bool := rhs T d || isL d st
theorem Vals.inj {us : List Value} : ∀ {xs ys : List V}, Vals xs us → Vals ys us → (∀ x y u, RelV x u → RelV y u → x = y) → xs = ys := by
  intro xs ys h
  induction h generalizing ys with
  | nil => intro h2 _; cases h2; rfl
  | cons r _ ih =>
    intro h2 hi
    cases h2 with
    | cons r2 h3 => rw [hi _ _ _ r r2, ih h3 hi]
theorem zip_inj {β : Type} : ∀ {l : List Str} {xs ys : List β}, l.length = xs.length → l.length = ys.length → l.zip xs = l.zip ys → xs = ys
  | [], [], [], _, _, _ => rfl
  | a :: l, x :: xs, y :: ys, h1, h2, h => by
    rw [List.zip_cons_cons, List.zip_cons_cons] at h
    injection h with h3 h4
    cases h3
    rw [zip_inj (by simpa using h1) (by simpa using h2) h4]
section
variable {L : Lw} {X : Cx} {pins : List (Addr × Obj)} {s : Shared} {σ : St} {H : Hp} {W : Wd}
theorem sqT_inj (I : Inv X pins σ H s) (hi : ∀ x y u, RelV x u → RelV y u → x = y) {a : Addr} {xs ys : List V} (h1 : SqT X.K H a xs) (h2 : SqT X.K H a ys) : xs = ys := by
  obtain ⟨its, r, ⟨o, ho, hc, n, hd⟩, _⟩ := I.tuple h1
  obtain ⟨its2, r2, ⟨o2, ho2, hc2, n2, hd2⟩, _⟩ := I.tuple h2
  rw [ho] at ho2
  cases ho2
  rw [hd] at hd2
  injection hd2 with h3 _
  have h4 : its = its2 := by simpa using h3
  subst h4
  exact Vals.inj r r2 hi
end
def decV : Value → Option V
  | .none => some .non
  | .bool b => some (.bl b)
  | .int i _ => some (.int i)
  | .str x _ => some (.str x)
  | .bytes x _ => some (.byt x)
  | .float x _ => some (.flt x)
  | .ref a => some (.ref a)
  | .type n => some (.ty n)
  | _ => none
theorem decV_of : ∀ {x : V} {u : Value}, L2.RelV x u → decV u = some x
  | .non, u, h => by have h : u = .none := h; subst h; rfl
  | .bl b, u, h => by have h : u = .bool b := h; subst h; rfl
  | .int i, u, h => by obtain ⟨t, rfl⟩ : ∃ t, u = Value.int i t := h; rfl
  | .str i, u, h => by obtain ⟨t, rfl⟩ : ∃ t, u = Value.str i t := h; rfl
  | .byt i, u, h => by obtain ⟨t, rfl⟩ : ∃ t, u = Value.bytes i t := h; rfl
  | .flt i, u, h => by obtain ⟨t, rfl⟩ : ∃ t, u = Value.float i t := h; rfl
  | .ref a, u, h => by have h : u = .ref a := h; subst h; rfl
  | .ty n, u, h => by have h : u = .type n := h; subst h; rfl
theorem relV_inj (x y : V) (u : Value) (h1 : L2.RelV x u) (h2 : L2.RelV y u) : x = y := Option.some.inj ((decV_of h1).symm.trans (decV_of h2))
section
variable {L : Lw} {X : Cx} {pins : List (Addr × Obj)} {s : Shared} {σ : St} {H : Hp} {W : Wd} {st : Store}
theorem tup_not_ins (I : Inv X pins σ H s) {a C dx : Addr} {xs : List V} {fs : List (Str × V)} (h : SqT X.K H a xs) (e : H a = some (.ins C dx fs)) : False := by
  obtain ⟨its, r, ⟨o, ho, hc, n, hd⟩, _⟩ := I.tuple h
  obtain ⟨mA, J, _⟩ := ins_get I.hok e
  obtain ⟨od, J, _⟩ := J.look
  rw [J.at_] at ho
  cases ho
  cases hc
mutual
theorem Rl.inj (I : Inv X pins σ H s) (S : Sok X.K L W st H) (hc : ∀ i j, L.isC i = true → L.isC j = true → L.cad i = L.cad j → i = j) : ∀ {d e : D} {v : V}, okC L.toLs d = true → okC L.toLs e = true → Rl X.K L W d v → Rl X.K L W e v → d = e
  | .non, e, v, _, h2, R1, R2 => by
    rw [Rl.non.mp R1] at R2
    cases e with
    | non => rfl
    | bl b => cases Rl.bl.mp R2
    | int b => cases Rl.int.mp R2
    | str b => cases Rl.str.mp R2
    | tup ds => obtain ⟨_, _, h, _⟩ := Rl.tup.mp R2; cases h
    | obj c ds => obtain ⟨_, _, _, h, _⟩ := Rl.obj.mp R2; cases h
    | ref n => obtain ⟨_, h, _⟩ := Rl.ref.mp R2; cases h
    | fn n => rw [okC_fn] at h2; cases h2
  | .bl b, e, v, _, h2, R1, R2 => by
    rw [Rl.bl.mp R1] at R2
    cases e with
    | non => cases Rl.non.mp R2
    | bl b => cases Rl.bl.mp R2; rfl
    | int b => cases Rl.int.mp R2
    | str b => cases Rl.str.mp R2
    | tup ds => obtain ⟨_, _, h, _⟩ := Rl.tup.mp R2; cases h
    | obj c ds => obtain ⟨_, _, _, h, _⟩ := Rl.obj.mp R2; cases h
    | ref n => obtain ⟨_, h, _⟩ := Rl.ref.mp R2; cases h
    | fn n => rw [okC_fn] at h2; cases h2
  | .int b, e, v, _, h2, R1, R2 => by
    rw [Rl.int.mp R1] at R2
    cases e with
    | non => cases Rl.non.mp R2
    | bl b => cases Rl.bl.mp R2
    | int b => cases Rl.int.mp R2; rfl
    | str b => cases Rl.str.mp R2
    | tup ds => obtain ⟨_, _, h, _⟩ := Rl.tup.mp R2; cases h
    | obj c ds => obtain ⟨_, _, _, h, _⟩ := Rl.obj.mp R2; cases h
    | ref n => obtain ⟨_, h, _⟩ := Rl.ref.mp R2; cases h
    | fn n => rw [okC_fn] at h2; cases h2
  | .str b, e, v, _, h2, R1, R2 => by
    rw [Rl.str.mp R1] at R2
    cases e with
    | non => cases Rl.non.mp R2
    | bl b => cases Rl.bl.mp R2
    | int b => cases Rl.int.mp R2
    | str b => cases Rl.str.mp R2; rfl
    | tup ds => obtain ⟨_, _, h, _⟩ := Rl.tup.mp R2; cases h
    | obj c ds => obtain ⟨_, _, _, h, _⟩ := Rl.obj.mp R2; cases h
    | ref n => obtain ⟨_, h, _⟩ := Rl.ref.mp R2; cases h
    | fn n => rw [okC_fn] at h2; cases h2
  | .tup ds, e, v, h1, h2, R1, R2 => by
    obtain ⟨a, vs, rfl, q1, q2⟩ := Rl.tup.mp R1
    cases e with
    | non => cases Rl.non.mp R2
    | bl b => cases Rl.bl.mp R2
    | int b => cases Rl.int.mp R2
    | str b => cases Rl.str.mp R2
    | tup es =>
      obtain ⟨b, us, h, q3, q4⟩ := Rl.tup.mp R2
      cases h
      have e1 := sqT_inj I relV_inj (SqT_mono S.fz q1) (SqT_mono S.fz q3)
      subst e1
      rw [okC_tup] at h1 h2
      rw [Rls.inj I S hc h1 h2 q2 q4]
    | obj c es =>
      obtain ⟨b, dx, us, h, q3, _⟩ := Rl.obj.mp R2
      cases h
      exact (tup_not_ins I (SqT_mono S.fz q1) (S.fz _ _ q3)).elim
    | ref n => rw [okC_ref] at h2; cases h2
    | fn n => rw [okC_fn] at h2; cases h2
  | .obj c ds, e, v, h1, h2, R1, R2 => by
    obtain ⟨a, dx, vs, rfl, q1, q5, q2⟩ := Rl.obj.mp R1
    cases e with
    | non => cases Rl.non.mp R2
    | bl b => cases Rl.bl.mp R2
    | int b => cases Rl.int.mp R2
    | str b => cases Rl.str.mp R2
    | tup es =>
      obtain ⟨b, us, h, q3, _⟩ := Rl.tup.mp R2
      cases h
      exact (tup_not_ins I (SqT_mono S.fz q3) (S.fz _ _ q1)).elim
    | obj c2 es =>
      obtain ⟨b, dx2, us, h, q3, q6, q4⟩ := Rl.obj.mp R2
      cases h
      rw [q1] at q3
      injection q3 with q3
      injection q3 with e1 e2 e3
      rw [okC_obj, Bool.and_eq_true] at h1 h2
      have := hc c c2 h1.1 h2.1 e1
      subst this
      have e4 := zip_inj (by rw [List.length_map, q5, q2.length]) (by rw [List.length_map, q6, q4.length]) e3
      subst e4
      rw [Rls.inj I S hc h1.2 h2.2 q2 q4]
    | ref n => rw [okC_ref] at h2; cases h2
    | fn n => rw [okC_fn] at h2; cases h2
  | .ref n, e, v, h1, _, _, _ => by rw [okC_ref] at h1; cases h1
  | .fn n, e, v, h1, _, _, _ => by rw [okC_fn] at h1; cases h1
theorem Rls.inj (I : Inv X pins σ H s) (S : Sok X.K L W st H) (hc : ∀ i j, L.isC i = true → L.isC j = true → L.cad i = L.cad j → i = j) : ∀ {ds es : List D} {vs : List V}, okCs L.toLs ds = true → okCs L.toLs es = true → Rls X.K L W ds vs → Rls X.K L W es vs → ds = es
  | [], es, vs, _, _, R1, R2 => by
    rw [Rls.nil.mp R1] at R2
    cases es with
    | nil => rfl
    | cons e es => obtain ⟨_, _, h, _⟩ := Rls.cons.mp R2; cases h
  | d :: ds, es, vs, h1, h2, R1, R2 => by
    obtain ⟨v, vs', rfl, q1, q2⟩ := Rls.cons.mp R1
    cases es with
    | nil => cases Rls.nil.mp R2
    | cons e es =>
      obtain ⟨v2, vs2, h, q3, q4⟩ := Rls.cons.mp R2
      cases h
      rw [okCs_cons, Bool.and_eq_true] at h1 h2
      rw [Rl.inj I S hc h1.1 h2.1 q1 q3, Rls.inj I S hc h1.2 h2.2 q2 q4]
end
end
end Gm
namespace Gm
section
open PySem PySem.SeqAt
open AutoSeq1 (wpAny_loadPart')
open MeetsSeq MeetsSeq2 MeetsSeq3 SeqRoads2 GQ
variable {prog : Program} {w : World} {A : Around} {R : Result → Shared → Prop}
end
section
open PySem PySem.Spec
variable {prog : Program} {w : World} {A : Around} {E : Value → Shared → Prop} {s : Shared}
end
section
open PySem PySem.Spec PySem.Calls PyProof.Rows PySem.W
open Builtin
variable {prog : Program} {w : World} {A : Around} {E : Value → Shared → Prop} {s : Shared} {K : Frag} {x C L f : Addr} {h₀ : Heap} {m : Str → Option Value} {ox : Obj} {od : Option Obj} {b tb : Value}
end
section
open PySem PySem.SeqAt
open AutoSeq1 (wpAny_loadPart')
open MeetsSeq MeetsSeq2 MeetsSeq3 SeqRoads2 GQ
variable {prog : Program} {w : World} {A : Around} {R : Result → Shared → Prop}
def LsAt (s : Shared) (l : Addr) (N : Nat) (its : Array Value) : Prop := its.size = N ∧ ∃ n, s.heap.get? l = some { cls := .type "list", dict := none, data := .seq its n, slots := #[] }
end
section
open PySem PySem.Spec
variable {prog : Program} {w : World} {A : Around} {E : Value → Shared → Prop} {s : Shared}
end
end Gm
namespace Gm
open PySem PySem.Spec PyProof.Rows L2
section
variable {L : Lw} {X : Cx} {Wx : WX} {k : Nat} {c : Fn}
def LeftL (X : Cx) (L : Lw) (Wx : WX) (pins : List (Addr × Obj)) (σ : St) (q : D → D → Store → Res Bool) (Q : Bool → Hp → Prop) (st : Store) (xs ys : List D) (m p : Nat) (a b : Addr) (i : Nat) (s' : Shared) : Prop :=
  ∃ W H, Inv X pins σ H s' ∧ Sok X.K L W st H ∧ W.io[m]? = some a ∧ W.io[p]? = some b ∧ Out X.K L Wx W σ (okT Q) (eqLs L.toLs q st (xs.drop i) (ys.drop i))
theorem LeftL.vals {pins : List (Addr × Obj)} {s : Shared} {σ : St} {H : Hp} {W : Wd} {st : Store} {m : Nat} {a : Addr} {xs : List D} (I : Inv X pins σ H s) (S : Sok X.K L W st H) (h : st[m]? = some (.lst xs)) (io : W.io[m]? = some a) : ∃ (vs : List V) (its : List Value), Rls X.K L W xs vs ∧ Vals vs its ∧ LsAt s a xs.length its.toArray := by
  obtain ⟨vs, h1, h2⟩ := S.cell m _ a h io
  obtain ⟨_, its, n, r, e⟩ := I.hok a _ h1
  exact ⟨vs, its, h2, r, by rw [List.size_toArray, ← r.length, ← h2.length], n, e⟩
theorem LeftL.at_ {pins : List (Addr × Obj)} {s : Shared} {σ : St} {H : Hp} {W : Wd} {st : Store} {m : Nat} {a : Addr} {xs : List D} (I : Inv X pins σ H s) (S : Sok X.K L W st H) (h : st[m]? = some (.lst xs)) (io : W.io[m]? = some a) : ∃ its, LsAt s a xs.length its := by
  obtain ⟨_, its, _, _, h⟩ := LeftL.vals I S h io
  exact ⟨_, h⟩
end
end Gm
namespace Gm
open PySem PySem.Spec PyProof.Rows L2
section
variable {L : Lw} {X : Cx} {Wx : WX} {k : Nat} {c : Fn}
inductive EqCase (L : Lw) (c : Fn) (q : D → D → Store → Res Bool) (d1 d2 : D) (st : Store) (r : Res Bool) : Prop where
  | own (i f : Nat) (ds : List D) (e : d1 = .obj i ds) (hm : L.meth i 21 = some f) (hd : rhsL L.toLs d2 st = true) (hr : r = (callD L.toLs c f [d1, d2] st).bind asB)
  | plain (p p' : PyData) (h1 : pyD 6 st d1 = some p) (h2 : pyD 6 st d2 = some p') (s1 : SeqAt.shaped p = true) (s2 : SeqAt.shaped p' = true) (hr : r = .ok (PyData.eqv p p') st)
  | tups (xs ys : List D) (e1 : d1 = .tup xs) (e2 : d2 = .tup ys) (hr : r = eqAll L.toLs q xs ys st)
  | lsts (m p : Nat) (xs ys : List D) (e1 : d1 = .ref m) (e2 : d2 = .ref p) (h1 : st[m]? = some (.lst xs)) (h2 : st[p]? = some (.lst ys)) (hr : r = if xs.length = ys.length then eqLs L.toLs q st xs ys else .ok false st)
  | no (hr : r = .stuck)
end
end Gm
namespace Gm
open PySem PySem.Spec PyProof.Rows L2
section
variable {L : Lw} {X : Cx} {Wx : WX} {k : Nat} {c : Fn}
section
variable {L : Lw}
end
end
end Gm
namespace Gm
open PySem PySem.Spec PyProof.Rows L2
section
variable {L : Lw} {X : Cx} {Wx : WX} {k : Nat} {c : Fn}
def teOf (L : Lw) (K : PySem.W.Frag) (Wx : WX) (f : Fe) : TE := fun σ H Q => ∃ W st ρ, Sok K L W st H ∧ EnR K L W σ ρ ∧ Out K L Wx W σ (okE K L Q) (f ρ st)
def ttOf (L : Lw) (K : PySem.W.Frag) (Wx : WX) (f : Ft) : TT := fun σ H Q => ∃ W st ρ, Sok K L W st H ∧ EnR K L W σ ρ ∧ Out K L Wx W σ (okT Q) (f ρ st)
theorem RE.pe {e : Expr} {f : Fe} (h : RE L X Wx e f) : PE X e (teOf L X.K Wx f) := ⟨fun pins s σ H Q I ⟨W, st, ρ, S, E, o⟩ => h.run pins s σ H W st ρ Q I S E o⟩
theorem RT.pt {e : Expr} {f : Ft} (h : RT L X Wx e f) : PT X e (ttOf L X.K Wx f) := ⟨fun pins s σ H Q I ⟨W, st, ρ, S, E, o⟩ => h.run pins s σ H W st ρ Q I S E o⟩
section
variable {W : Wd} {σ : St} {H : Hp} {st : Store} {ρ : Ev} {β : Type} {Ok : Wd → Hp → β → Prop}
theorem Out.toE {r : Res D} {kk : D → Store → Res β} {Q : VK} {K : PySem.W.Frag} (o : Out K L Wx W σ Ok (r.bind kk)) (h : ∀ d st1 W1 H1 v, r = .ok d st1 → W.le W1 → Sok K L W1 st1 H1 → Rl K L W1 d v → Out K L Wx W1 σ Ok (kk d st1) → Q v H1) : Out K L Wx W σ (okE K L Q) r := by
  cases r with
  | ok d st1 => exact fun W' H' e' S' v R' => h d st1 W' H' v rfl e' S' R' (Out.mono e' o)
  | err x st1 => exact o
  | stuck => exact o
end
structure ItOk (K : PySem.W.Frag) (L : Lw) (J : It) (W : Wd) (ds : List D) (chk : Store → Prop) : Prop where
  go : ∀ (i : Nat) (W' : Wd) (st : Store) (H : Hp) (d : D), W.le W' → Sok K L W' st H → chk st → ds[i]? = some d → J.go i H ∧ ∀ x H', J.yld i H x H' → ∃ W2, W'.le W2 ∧ Sok K L W2 st H' ∧ Rl K L W2 d x
  stop : ∀ (i : Nat) (W' : Wd) (st : Store) (H : Hp), W.le W' → Sok K L W' st H → chk st → ds.length ≤ i → J.stop i H
theorem ItOk.mono {K : PySem.W.Frag} {J : It} {W W1 : Wd} {ds : List D} {chk : Store → Prop} (h : ItOk K L J W ds chk) (e : W.le W1) : ItOk K L J W1 ds chk :=
  ⟨fun i W' st H d e' => h.go i W' st H d (e.trans e'), fun i W' st H e' => h.stop i W' st H (e.trans e')⟩
abbrev Fi := Ev → Store → Res (List D × (Store → Prop))
structure RI (L : Lw) (X : Cx) (Wx : WX) (tg iter : Expr) (f : Fi) : Prop where
  run : ∀ (pins : List (Addr × Obj)) (s : Shared) (σ : St) (H : Hp) (W : Wd) (st : Store) (ρ : Ev) (R : It → Hp → Prop), Inv X pins σ H s → Sok X.K L W st H → EnR X.K L W σ ρ →
    Out X.K L Wx W σ (fun W' H' p => ∀ J, ItOk X.K L J W' p.1 p.2 → R J H') (f ρ st) →
    wpAny (model X.prog X.w) X.A (eval iter X.env) (fun v s1 => wpAny (model X.prog X.w) X.A (pyIter v) (PIE X pins σ tg R) X.xe s1) X.xe s
end
end Gm
namespace Gm
open PySem PySem.Spec PyProof.Rows L2
section
variable {L : Lw} {X : Cx} {Wx : WX} {k : Nat} {c : Fn}
abbrev W0 : WX := fun _ _ _ _ => False
def wipeE (ρ : Ev) : List Nat → Ev
  | [] => ρ
  | v :: vs => (wipeE ρ vs).set v none
theorem wipeE_length (ρ : Ev) : ∀ vs : List Nat, (wipeE ρ vs).length = ρ.length
  | [] => rfl
  | v :: vs => by unfold wipeE; rw [List.length_set, wipeE_length ρ vs]
theorem wipe_at {σ : St} {i : Nat} : ∀ {vs : List Nat}, i ∉ vs → (wipe σ vs)[i]? = σ[i]?
  | [], _ => rfl
  | v :: vs, h => by
    unfold wipe
    rw [List.getElem?_set_ne (fun e => h (by simp [e]))]
    exact wipe_at (fun q => h (List.mem_cons_of_mem _ q))
theorem wipeE_some {ρ : Ev} {i : Nat} {x : D} : ∀ {vs : List Nat}, (wipeE ρ vs)[i]? = some (some x) → ρ[i]? = some (some x) ∧ i ∉ vs
  | [], h => ⟨h, by simp⟩
  | v :: vs, h => by
    unfold wipeE at h
    by_cases hi : v = i
    · subst hi
      by_cases hv : v < (wipeE ρ vs).length
      · rw [List.getElem?_set_self hv] at h; cases h
      · rw [List.getElem?_eq_none (by simpa using hv)] at h; cases h
    · rw [List.getElem?_set_ne hi] at h
      obtain ⟨h1, h2⟩ := wipeE_some h
      exact ⟨h1, by simp only [List.mem_cons, not_or]; exact ⟨fun e => hi e.symm, h2⟩⟩
theorem EnR.wipe {K : PySem.W.Frag} {W : Wd} {σ : St} {ρ : Ev} (vs : List Nat) (E : EnR K L W σ ρ) : EnR K L W (wipe σ vs) (wipeE ρ vs) := ⟨by rw [wipeE_length, wipe_length]; exact E.1, fun i d h => by
  obtain ⟨h1, h2⟩ := wipeE_some h
  obtain ⟨v, h3, h4⟩ := E.2 i d h1
  exact ⟨v, by rw [wipe_at h2]; exact h3, h4⟩⟩
structure RTs (L : Lw) (X : Cx) (Wx : WX) (es : List Expr) (f : Ft) : Prop where
  pts : PTs X es (ttOf L X.K Wx f)
end
end Gm
namespace Gm
open PySem PySem.Spec PyProof.Rows L2
section
variable {L : Lw} {X : Cx} {Wx : WX} {k : Nat} {c : Fn} {x : Str} {p pos : Pos} {e : Expr} {es : List Expr} {f : Fe} {r : Fa}
def kindD (d : D) (st : Store) : Option String := match d with
  | .non => some "NoneType" | .bl _ => some "bool" | .int _ => some "int" | .str _ => some "str" | .tup _ => some "tuple"
  | .ref n => match st[n]? with
    | some (.lst _) => some "list" | some (.rol _) => some "list" | some (.dic _) => some "dict" | _ => none
  | .obj _ _ => none
  | .fn _ => none
def clsD (d : D) (st : Store) : Option Nat := match d with
  | .obj i _ => some i
  | .ref n => match st[n]? with
    | some (.ins i _) => some i | _ => none
  | _ => none
def isoD (T : Ls) (j : Nat) (d : D) (st : Store) : Res D := match clsD d st with
  | some i => if T.isC i = true then .ok (.bl (T.sub i j)) st else .stuck
  | none => match kindD d st with
    | some _ => .ok (.bl false) st
    | none => .stuck
def istD (T : Ls) (t : String) (d : D) (st : Store) : Res D := match clsD d st with
  | some i => if T.isC i = true then .ok (.bl false) st else .stuck
  | none => match kindD d st with
    | some u => .ok (.bl (u == t || (u == "bool" && t == "int"))) st
    | none => .stuck
theorem kindD_in {d : D} {st : Store} {t : String} (h : kindD d st = some t) : t ∈ kinds := by
  unfold kindD at h
  split at h <;> first
    | (cases h; decide)
    | (split at h <;> first | (cases h; decide) | cases h)
    | cases h
theorem kindD_ty {K : PySem.W.Frag} {W : Wd} {st : Store} {H : Hp} {d : D} {v : V} {t : String} (S : Sok K L W st H) (R : Rl K L W d v) (h : kindD d st = some t) : TyX K H v (.type t) := by
  cases d with
  | non => cases h; rw [Rl.non.mp R]; exact .base .non
  | bl b => cases h; rw [Rl.bl.mp R]; exact .base (.bl b)
  | int b => cases h; rw [Rl.int.mp R]; exact .base (.int b)
  | str b => cases h; rw [Rl.str.mp R]; exact .base (.str b)
  | tup ds =>
    cases h
    obtain ⟨a, vs, rfl, h1, _⟩ := Rl.tup.mp R
    rcases SqT_mono S.fz h1 with (h2 | ⟨o, h2⟩) | ⟨o, its, n, q1, q2, _⟩
    · exact .base (.tup h2)
    · exact .fTuple h2
    · exact .kTuple q1 q2
  | obj _ _ => cases h
  | fn _ => cases h
  | ref n =>
    obtain ⟨a, rfl, h1⟩ := Rl.ref.mp R
    unfold kindD at h
    dsimp only at h
    split at h
    · rename_i ds hn
      cases h
      obtain ⟨vs, h2, _⟩ := S.cell n _ a hn h1
      exact .base (.lst h2)
    · rename_i ds hn
      cases h
      obtain ⟨vs, h2, _⟩ := S.cell n _ a hn h1
      rcases h2 with ⟨o, h2⟩ | ⟨o, its, m, q1, q2, _⟩
      · exact .base (.frz h2)
      · exact .kList q1 q2
    · rename_i ds hn
      cases h
      obtain ⟨vs, h2, _⟩ := S.cell n _ a hn h1
      exact .base (.dK h2)
    · cases h
theorem Gd.clsD_ty (G : Gd L X Wx k c) {W : Wd} {st : Store} {H : Hp} {d : D} {v : V} {i : Nat} (S : Sok X.K L W st H) (R : Rl X.K L W d v) (h : clsD d st = some i) (hC : L.isC i = true) : TyX X.K H v (.ref (L.cad i)) := by
  cases d with
  | obj j ds =>
    cases h
    obtain ⟨a, dx, vs, rfl, h1, _⟩ := Rl.obj.mp R
    exact .base (.ins (S.fz _ _ h1) (G.fo.cl i hC).cls (G.fo.oc i hC) G.fo.og G.fo.ot (G.fo.ob i hC))
  | ref n =>
    obtain ⟨a, rfl, h1⟩ := Rl.ref.mp R
    unfold clsD at h
    dsimp only at h
    split at h
    · rename_i j fs hn
      cases h
      obtain ⟨dx, vs, h2, _⟩ := S.cell n _ a hn h1
      exact .base (.ins h2 (G.fo.cl i hC).cls (G.fo.oc i hC) G.fo.og G.fo.ot (G.fo.ob i hC))
    · cases h
  | _ => cases h
theorem kit_pair {K : PySem.W.Frag} : ∀ t ∈ kinds, ∀ u ∈ kinds, PySem.W.kitOne K (.type u) (.type t) = some (u == t || (u == "bool" && t == "int")) := by
  intro t ht u hu
  simp only [kinds, List.mem_cons, List.not_mem_nil, or_false] at ht hu
  rcases ht with rfl | rfl | rfl | rfl | rfl | rfl | rfl <;> rcases hu with rfl | rfl | rfl | rfl | rfl | rfl | rfl <;> first | rfl | decide +kernel
def xIso (T : Ls) (j : Nat) (f : Fe) : Fe := fun ρ st => (f ρ st).bind fun d st => isoD T j d st
def xIst (T : Ls) (t : String) (f : Fe) : Fe := fun ρ st => (f ρ st).bind fun d st => istD T t d st
theorem re_iso {j : Nat} {y : Str} {p2 : Pos} (G : Gd L X Wx k c) (hj : L.isC j = true) (he : RE L X Wx e f) (hg : Gl X "isinstance") (hm : X.mg "isinstance" = none) (hy : Gl X y) (hym : X.mg y = some (.ref (L.cad j))) (hyd : (y == ("__debug__" : Str)) = false := by decide)
    (hs : starEach [e, .Name y p2] X.env = (false, eval e X.env) :: starEach [.Name y p2] X.env := by rfl) (hpl : (backTo pos (starEach [.Name y p2] X.env)).any (·.1) = false := by rfl) (hs2 : starEach [.Name y p2] X.env = (false, eval (.Name y p2) X.env) :: starEach [] X.env := by rfl) :
    RE L X Wx (.Call (.Name "isinstance" p) [e, .Name y p2] [] pos) (xIso L.toLs j f) := by
  have pc : PE X (.Name y p2) (tC (.ref (L.cad j))) := ⟨fun pins s σ H Q I h => ld_glob I hy hym ⟨.ref (L.cad j), H, I, rfl, h⟩ hyd⟩
  refine RE.of_pe (pe_callB call_isi hg hm PyProof.Rows.boot_isinstance (pa_cons he.pe (pa_cons pc pa_nil hs2) hs) (by decide) (by decide) hs hpl) fun σ H W st ρ Q S E o => ?_
  refine ⟨W, st, ρ, S, E, Out.toE o fun d st1 W1 H1 v hr e1 S1 R1 o1 => ?_⟩
  show rIsi X.K [v, V.ref (L.cad j)] H1 Q
  unfold isoD at o1
  split at o1
  · rename_i i hi
    split at o1
    · rename_i hC
      exact ⟨v, _, _, _, _, rfl, .own _, G.clsD_ty S1 R1 hi hC, G.fo.ko i j hC hj, o1 W1 H1 .rfl' S1 _ (Rl.bl.mpr rfl)⟩
    · exact o1.elim
  · split at o1
    · rename_i t ht
      exact ⟨v, _, _, _, _, rfl, .own _, kindD_ty S1 R1 ht, G.fo.kt j t hj (kindD_in ht), o1 W1 H1 .rfl' S1 _ (Rl.bl.mpr rfl)⟩
    · exact o1.elim
theorem re_ist {t : String} {y : Str} {p2 : Pos} (G : Gd L X Wx k c) (htk : t ∈ kinds) (he : RE L X Wx e f) (hg : Gl X "isinstance") (hm : X.mg "isinstance" = none) (hy : Gl X y) (hym : X.mg y = none) (hv : bootBuiltins y = some (.type t)) (hyn : y ≠ "__name__" := by decide) (hyd : (y == ("__debug__" : Str)) = false := by decide)
    (hs : starEach [e, .Name y p2] X.env = (false, eval e X.env) :: starEach [.Name y p2] X.env := by rfl) (hpl : (backTo pos (starEach [.Name y p2] X.env)).any (·.1) = false := by rfl) (hs2 : starEach [.Name y p2] X.env = (false, eval (.Name y p2) X.env) :: starEach [] X.env := by rfl) :
    RE L X Wx (.Call (.Name "isinstance" p) [e, .Name y p2] [] pos) (xIst L.toLs t f) := by
  have pc : PE X (.Name y p2) (tC (.ty t)) := ⟨fun pins s σ H Q I h => ld_blt I hy hym hv ⟨.ty t, H, I, rfl, h⟩ hyn hyd⟩
  refine RE.of_pe (pe_callB call_isi hg hm PyProof.Rows.boot_isinstance (pa_cons he.pe (pa_cons pc pa_nil hs2) hs) (by decide) (by decide) hs hpl) fun σ H W st ρ Q S E o => ?_
  refine ⟨W, st, ρ, S, E, Out.toE o fun d st1 W1 H1 v hr e1 S1 R1 o1 => ?_⟩
  show rIsi X.K [v, V.ty t] H1 Q
  unfold istD at o1
  split at o1
  · rename_i i hi
    split at o1
    · rename_i hC
      exact ⟨v, _, _, _, _, rfl, .ty t, G.clsD_ty S1 R1 hi hC, G.fo.kb i t hC htk, o1 W1 H1 .rfl' S1 _ (Rl.bl.mpr rfl)⟩
    · exact o1.elim
  · split at o1
    · rename_i u hu
      exact ⟨v, _, _, _, _, rfl, .ty t, kindD_ty S1 R1 hu, kit_pair t htk u (kindD_in hu), o1 W1 H1 .rfl' S1 _ (Rl.bl.mpr rfl)⟩
    · exact o1.elim
end
end Gm
namespace Gm
open PySem PySem.Spec PyProof.Rows L2
section
variable {L : Lw} {X : Cx} {Wx : WX} {k : Nat} {c : Fn} {x : Str} {p pos : Pos} {e o a b : Expr} {es : List Expr} {f h : Fe} {r : Fa}
inductive RPs (L : Lw) (X : Cx) (Wx : WX) : List Str → List (Option Expr) → List Expr → Fa → Prop where
  | nil : RPs L X Wx [] [] [] aNil
  | cons {z : Str} {j : Nat} {kp : Pos} {v : Expr} {ks : List Str} {kes : List (Option Expr)} {ves : List Expr} {f : Fe} {r : Fa} : RE L X Wx v f → RPs L X Wx ks kes ves r → RPs L X Wx (z :: ks) (some (.Constant (.str z) j kp) :: kes) (v :: ves) (aCons f r)
end
end Gm
namespace Gm
open PySem PySem.Spec PyProof.Rows L2
section
variable {L : Lw} {X : Cx} {Wx : WX} {k : Nat} {c : Fn} {x : Str} {p pos apos : Pos} {e o a b fe : Expr} {es : List Expr} {f h : Fe} {r : Fa}
abbrev Fo := Ev → Store → Res (Option Int)
def toOf (L : Lw) (K : PySem.W.Frag) (Wx : WX) (f : Fo) : TO := fun σ H Q => ∃ W st ρ, Sok K L W st H ∧ EnR K L W σ ρ ∧ Out K L Wx W σ (fun _ H' o => Q o H') (f ρ st)
structure RO (L : Lw) (X : Cx) (Wx : WX) (e : Option Expr) (f : Fo) : Prop where
  po : PO X e (toOf L X.K Wx f)
end
end Gm
namespace Gm
open PySem PySem.Spec PyProof.Rows L2
section
variable {L : Lw} {X : Cx} {Wx : WX} {k : Nat} {c : Fn}
end
end Gm
namespace Gm
open PySem PySem.Spec PyProof.Rows L2
structure Cl where
  name : Str
  lay : List Nat
  atn : List Nat
  meth : List (Nat × Nat)
  prop : List (Nat × Nat)
structure Df where
  d : He.DefD
  ps : List Str
def adr (K : PySem.W.Frag) (p : Str × Option Str) : Addr := match p.2 with
  | none => He.ga K p.1
  | some _ => match PySem.W.recIn K (He.fAd K p) "property" with
    | some (.ref g :: _) => g
    | _ => He.fAd K p
structure Xcl where
  name : Str
  lay : List Nat
structure Tb where
  cls : List Cl
  defs : List Df
  nms : List Str
  ni : List (Nat × Nat)
  /-- own error classes -/
  xc : List Xcl := []
  /-- defs that make lambdas, the lambdas' name -/
  lam : List ((Str × Option Str) × Str) := []
def Tb.xlay (t : Tb) (n : Nat) : List Nat := match t.xc[n]? with | some x => x.lay | none => []
def dvD : He.Dv → D
  | .int i => .int i
  | .bl b => .bl b
  | .str z => .str z
  | _ => .non
def tailsD : List He.Dv → List (List D)
  | [] => [[]]
  | d :: ds => (d :: ds).map dvD :: tailsD ds
def Tb.nm (t : Tb) (n : Nat) : Str := if n < 40 then nameOf n else t.nms.getD (n - 40) ""
def Tb.ls (t : Tb) : Ls where
  nm := t.nm
  lay i := match t.cls[i]? with | some c => c.lay | none => t.xlay (i - t.cls.length)
  atn i := match t.cls[i]? with | some c => c.atn | none => t.xlay (i - t.cls.length)
  isC i := decide (i < t.cls.length)
  isF f := decide (f < t.defs.length)
  fps f := match t.defs[f]? with | some d => d.ps | none => []
  dfl f := match t.defs[f]? with | some d => tailsD d.d.dfl | none => []
  meth i m := match t.cls[i]? with | some c => c.meth.lookup m | none => none
  prop i m := match t.cls[i]? with | some c => c.prop.lookup m | none => none
  sub i j := i == j
  ni f j := t.ni.contains (f, j)
def fdO (o : Option Obj) : Option FuncData := match o with
  | some ⟨_, _, .func fd, _⟩ => some fd
  | _ => none
def Tb.cad (t : Tb) (K : PySem.W.Frag) (i : Nat) : Addr := match t.cls[i]? with | some c => He.ga K c.name | none => match t.xc[i - t.cls.length]? with | some x => He.ga K x.name | none => 0
def codeA (K : PySem.W.Frag) (p : Str × Option Str) : Addr := match fdO (K.lookup (adr K p)) with
  | some fd => (match fd.code with | .ref c => c | _ => 0)
  | none => 0
def Tb.fad (t : Tb) (K : PySem.W.Frag) (f : Nat) : Addr := match t.defs[f]? with | some d => adr K d.d.at_ | none => 0
def Tb.lw (t : Tb) (K : PySem.W.Frag) : Lw := { t.ls with
  cad := t.cad K
  fad := t.fad K
  fdt := fun f => (fdO (K.lookup (t.fad K f))).getD default
  tabs := t.lam.map fun p => (He.tabOf K (codeA K p.1), p.2) }
def refO : Option (Option Value) → Bool
  | some none => true
  | some (some (.ref _)) => true
  | _ => false
def ops9 : List Operator := [.Add, .Sub, .Mult, .FloorDiv, .Mod, .Pow, .BitAnd, .BitOr, .BitXor]
def prpB (K : PySem.W.Frag) (C : Addr) (m : Str) (g : Addr) : Bool := match PySem.W.findIn K (.ref C) m with
  | some (some (.ref p)) => He.eqO (PySem.W.specialIn K (.ref p) "__get__") (some (some (.builtin "property.__get__"))) && (decide (PySem.W.takesIn K (.ref p) = some true) && (match PySem.W.recIn K p "property" with
    | some (.ref g' :: _) => g' == g
    | _ => false))
  | _ => false
def clB (K : PySem.W.Frag) (t : Tb) (c : Cl) : Bool :=
  let C := He.ga K c.name
  PySem.W.plainGet K C Str.empty && PySem.W.hasDictIn K C && PySem.W.plainOver K C && He.eqO (PySem.W.findIn K (.ref C) "__setattr__") (some (some (.builtin "object.__setattr__"))) &&
  PySem.W.selfFirst K C && PySem.W.keepIn K (.ref C) &&
  decide (PySem.W.mroIn K C (.type "object") = some true) && He.eqO (PySem.W.findIn K (.ref C) "__class__") (some (some (.builtin "object.__class__"))) &&
  (c.meth.all fun p => decide (p.2 < t.defs.length) && He.eqO (PySem.W.findIn K (.ref C) (t.nm p.1)) (some (some (.ref (t.fad K p.2)))) && PySem.W.isFn K (.ref (t.fad K p.2)) && PySem.W.keepIn K (.ref (t.fad K p.2))) &&
  ((c.meth.lookup 37).isNone || PySem.W.makesIn K C) &&
  ((c.meth.lookup 21).isNone || He.eqO (PySem.W.findIn K (.ref C) "__ne__") (some (some (.builtin "object.__ne__")))) &&
  ((c.meth.lookup 34).isSome || ((c.meth.lookup 38).isSome || (He.eqO (PySem.W.findIn K (.ref C) "__bool__") (some none) && He.eqO (PySem.W.findIn K (.ref C) "__len__") (some none)))) &&
  (c.atn.all fun g => He.eqO (PySem.W.findIn K (.ref C) (t.nm g)) (some none)) &&
  (kinds.all fun k => decide (PySem.W.kitOne K (.type k) (.ref C) = some false) && decide (PySem.W.kitOne K (.ref C) (.type k) = some false)) &&
  decide (PySem.W.subIn K (.type "int") (.ref C) = some false) && decide (PySem.W.subIn K (.ref C) (.type "int") = some false) &&
  (ops9.all fun op => refO (PySem.W.findIn K (.ref C) (dunderR op.info.2))) &&
  (c.prop.all fun p => decide (p.2 < t.defs.length) && prpB K C (t.nm p.1) (t.fad K p.2))
def prB (K : PySem.W.Frag) (t : Tb) (i j : Nat) : Bool := decide (PySem.W.kitOne K (.ref (t.cad K i)) (.ref (t.cad K j)) = some (i == j)) &&
  (i == j || (decide (PySem.W.subIn K (.ref (t.cad K i)) (.ref (t.cad K j)) = some false) && !(t.cad K i == t.cad K j)))
def okB (t : Tb) (K : PySem.W.Frag) : Bool :=
  (t.cls.all fun c => clB K t c) && (((List.range t.cls.length).all fun i => (List.range t.cls.length).all fun j => prB K t i j) &&
  ((t.defs.all fun d => PySem.W.fnIn K (adr K d.d.at_)) &&
  (decide (PySem.W.specialIn K (.builtin "object.__class__") "__get__" = some (some (.builtin "getset_descriptor.__get__"))) && decide (PySem.W.takesIn K (.builtin "object.__class__") = some true))))
section
variable {t : Tb} {K : PySem.W.Frag}
structure ClP (K : PySem.W.Frag) (t : Tb) (c : Cl) : Prop where
  c1 : PySem.W.plainGet K (He.ga K c.name) Str.empty = true
  c2 : PySem.W.hasDictIn K (He.ga K c.name) = true
  c3 : PySem.W.plainOver K (He.ga K c.name) = true
  c4 : PySem.W.findIn K (.ref (He.ga K c.name)) "__setattr__" = some (some (.builtin "object.__setattr__"))
  c5 : PySem.W.selfFirst K (He.ga K c.name) = true
  c6 : PySem.W.keepIn K (.ref (He.ga K c.name)) = true
  c7 : PySem.W.mroIn K (He.ga K c.name) (.type "object") = some true
  c8 : PySem.W.findIn K (.ref (He.ga K c.name)) "__class__" = some (some (.builtin "object.__class__"))
  c9 : ∀ p ∈ c.meth, p.2 < t.defs.length ∧ PySem.W.findIn K (.ref (He.ga K c.name)) (t.nm p.1) = some (some (.ref (t.fad K p.2))) ∧ PySem.W.isFn K (.ref (t.fad K p.2)) = true ∧ PySem.W.keepIn K (.ref (t.fad K p.2)) = true
  c10 : (c.meth.lookup 37).isNone = true ∨ PySem.W.makesIn K (He.ga K c.name) = true
  c11 : (c.meth.lookup 21).isNone = true ∨ PySem.W.findIn K (.ref (He.ga K c.name)) "__ne__" = some (some (.builtin "object.__ne__"))
  c12 : (c.meth.lookup 34).isSome = true ∨ (c.meth.lookup 38).isSome = true ∨ (PySem.W.findIn K (.ref (He.ga K c.name)) "__bool__" = some none ∧ PySem.W.findIn K (.ref (He.ga K c.name)) "__len__" = some none)
  c13 : ∀ g ∈ c.atn, PySem.W.findIn K (.ref (He.ga K c.name)) (t.nm g) = some none
  c14 : ∀ k ∈ kinds, PySem.W.kitOne K (.type k) (.ref (He.ga K c.name)) = some false ∧ PySem.W.kitOne K (.ref (He.ga K c.name)) (.type k) = some false
  c15 : PySem.W.subIn K (.type "int") (.ref (He.ga K c.name)) = some false
  c16 : PySem.W.subIn K (.ref (He.ga K c.name)) (.type "int") = some false
  c17 : ∀ op ∈ ops9, refO (PySem.W.findIn K (.ref (He.ga K c.name)) (dunderR op.info.2)) = true
  c18 : ∀ p ∈ c.prop, p.2 < t.defs.length ∧ ∃ q, PropOf K (He.ga K c.name) (t.nm p.1) q (t.fad K p.2)
theorem FOk.next {L : Lw} {P : Program} {w : World} {mg : Str → Option Value} {base : Heap} {k k' : Nat} {c c' : Fn} (F : FOk L P w K mg base k c) (h : ∀ f, L.isF f = true → FnOk P w K mg base (L2.CX P w) k' (L.fad f) (L.fdt f) (L.fps f) (spM K L (L.fps f).length (c' f))) (hno : ∀ f, L.isF f = true → NiOk L P w K mg base k' (L.fad f) (L.fdt f) (L.fps f) (c' (f + niB))) : FOk L P w K mg base k' c' :=
  { fn := h, kp := F.kp, fi := F.fi, bt := F.bt, mt := F.mt, mi := F.mi, pr := F.pr, cl := F.cl, la := F.la, ly := F.ly, li := F.li, lm := F.lm, ci := F.ci, nm := F.nm, bi := F.bi, rf := F.rf, sb := F.sb, sT := F.sT, ob := F.ob, oc := F.oc, og := F.og, ot := F.ot, ne := F.ne, tb := F.tb, ko := F.ko, kt := F.kt, kb := F.kb, no := hno }
end
abbrev AlG : Type := Bool × List He.FnW
def fwA (K : PySem.W.Frag) (p : Str × Option Str) : He.FnW := match K.lookup (adr K p) with
  | some ⟨_, _, .func f, _⟩ => some (f.name, f.qualname, f.params, f.body, f.scope, f.globals, f.closure, f.builtins)
  | _ => none
def okDf (K : PySem.W.Frag) (d : He.DefD) : Bool := PySem.W.keepIn K (.ref (adr K d.at_)) && (match K.lookup (adr K d.at_) with
  | some ⟨_, _, .func f, _⟩ => PySem.W.codeIn K f.code d.qual && He.dflB K f.defaults (d.dvs K) && He.kwdB K f.kwdefaults (d.kws K)
  | _ => false)
theorem funA {K : PySem.W.Frag} {d : He.DefD} (hv : fwA K d.at_ = d.val) (hk : okDf K d = true) : ∃ fd, FunD K d.name d.qual d.params d.body d.scope (d.dvs K) (d.kws K) (adr K d.at_) fd := by
  unfold okDf at hk
  unfold fwA at hv
  obtain ⟨kp, hm⟩ := Bool.and_eq_true_iff.mp hk
  split at hm
  · rename_i oc od f osl lk
    rw [lk] at hv
    obtain ⟨ab, k3⟩ := Bool.and_eq_true_iff.mp hm
    obtain ⟨k1, k2⟩ := Bool.and_eq_true_iff.mp ab
    cases f
    unfold He.DefD.val at hv
    simp only [Option.some.injEq, Prod.mk.injEq] at hv
    obtain ⟨rfl, rfl, rfl, rfl, rfl, rfl, rfl, rfl⟩ := hv
    exact ⟨_, ⟨oc, od, _, _, _, _, _, _, _, osl, rfl, lk, k1, He.dflB_ok k2, He.kwdB_ok k3⟩, kp⟩
  · cases hm
def obsG (fa : List He.Fa) (fn : List He.DefD) (ex : PySem.W.Frag → Bool) (K : PySem.W.Frag) : AlG := (fa.all (fun f => f.ok K) && fn.all (okDf K) && ex K, fn.map fun d => fwA K d.at_)
def valG (fn : List He.DefD) : AlG := (true, fn.map He.DefD.val)
def Says (fa : List He.Fa) (fn : List He.DefD) (ex : PySem.W.Frag → Bool) (K : PySem.W.Frag) : Prop := obsG fa fn ex K = valG fn
def refsS (o : Obj) : List Addr := match o.data with
  | .dict es _ => es.toList.flatMap fun e => He.refV e.val
  | .cls cd => [cd.ns]
  | .func fd => He.refV fd.code ++ He.refV fd.defaults ++ fd.closure.map (·.2)
  | .fields vs => match o.cls with
    | .type n => if n == "property" then vs.toList.flatMap He.refV else []
    | _ => []
  | _ => []
def stepS (g : Addr → Option Obj) (as : List Addr) : List Addr := as.flatMap fun a => match g a with
  | some o => refsS o
  | none => []
def asS (g : Addr → Option Obj) : Nat → List Addr → List Addr
  | 0, _ => []
  | n + 1, as => as ++ asS g n (stepS g as)
section
variable {fa : List He.Fa} {fn : List He.DefD} {ex : PySem.W.Frag → Bool} {K : PySem.W.Frag}
theorem Says.bits (c : Says fa fn ex K) : (fa.all (fun f => f.ok K) = true ∧ fn.all (okDf K) = true) ∧ ex K = true := by
  have e : (fa.all (fun f => f.ok K) && fn.all (okDf K) && ex K) = true := congrArg Prod.fst c
  rw [Bool.and_eq_true, Bool.and_eq_true] at e
  exact e
theorem Says.more (c : Says fa fn ex K) : ex K = true := (Says.bits c).2
theorem Says.def_ (c : Says fa fn ex K) (i : Nat) {d : He.DefD} (h : fn[i]? = some d := by rfl) : ∃ fd, FunD K d.name d.qual d.params d.body d.scope (d.dvs K) (d.kws K) (adr K d.at_) fd := by
  have e : fn.map (fun d => fwA K d.at_) = fn.map He.DefD.val := congrArg Prod.snd c
  refine funA ?_ (List.all_eq_true.mp (Says.bits c).1.2 d (List.mem_of_getElem? h))
  have e2 := congrArg (fun l => l[i]?) e
  simp only [List.getElem?_map, h, Option.map_some] at e2
  exact Option.some.inj e2
theorem Says.defs (c : Says fa fn ex K) {d : He.DefD} (h : d ∈ fn) : ∃ fd, FunD K d.name d.qual d.params d.body d.scope (d.dvs K) (d.kws K) (adr K d.at_) fd := by
  obtain ⟨i, hi, e⟩ := List.mem_iff_getElem.mp h
  exact Says.def_ c i (by rw [List.getElem?_eq_getElem hi, e])
end
end Gm
namespace Gm
open PySem PySem.Spec PyProof.Rows L2
section
variable {L : Lw} {X : Cx} {Wx : WX} {k : Nat} {c : Fn} {x : Str} {p pos pos' : Pos} {e : Expr} {es : List Expr} {f : Fe} {r : Fa}
theorem ev (i : Nat) (hN : X.N[i]? = some x := by rfl) (hv : Vis X.env.scope x := by first | exact Or.inl rfl | exact Or.inr (Or.inl rfl) | exact Or.inr (Or.inr rfl)) (hd : (x == ("__debug__" : Str)) = false := by decide)
    (hcd : (x == ("__classdict__" : Str)) = false := by decide) : RE L X Wx (.Name x pos) (xVar i) := re_var (pe_var hN hv hd hcd)
theorem rf (G : Gd L X Wx k c) (hp : PassesOwn (model X.prog X.w) X.A X.env X.xe → True := fun _ => trivial) : True := trivial
end
end Gm
namespace Gm
open PySem PySem.Spec PyProof.Rows L2
end Gm
namespace Gm
open PySem PySem.Spec PyProof.Rows L2
section
variable (ρ : Ev) (st : Store) (T : Ls) (c : Fn) (f h k : Fe) (r : Fa) (t u v : Ft) (a b : Fs)
end
noncomputable section
variable (ρ : Ev) (st : Store)
end
section
variable (ρ : Ev) (st : Store) (T : Ls) (c : Fn) (f h k : Fe) (r : Fa) (t u v : Ft) (a b : Fs)
end
end Gm
namespace Gm
open PySem PySem.Spec PyProof.Rows L2
def Sz (b : Nat) (q : Rat) : Prop := q.num.natAbs < 2 ^ b ∧ q.den < 2 ^ b
theorem Sz.mono {b b' : Nat} {q : Rat} (h : Sz b q) (hb : b ≤ b') : Sz b' q := ⟨Nat.lt_of_lt_of_le h.1 (Nat.pow_le_pow_right (by decide) hb), Nat.lt_of_lt_of_le h.2 (Nat.pow_le_pow_right (by decide) hb)⟩
theorem log2_lt {n b : Nat} (h : n < 2 ^ b) (hb : 0 < b) : n.log2 < b := by
  rcases Nat.eq_zero_or_pos n with rfl | hp
  · simpa using hb
  · exact (Nat.log2_lt (Nat.ne_of_gt hp)).mpr h
theorem mulOk {i j : Int} {b b' : Nat} (h1 : i.natAbs < 2 ^ b) (h2 : j.natAbs < 2 ^ b') (hb : b + b' ≤ 900000) : IntMulOk i j := by
  refine CMulW.ok ?_
  show i.natAbs.log2 + j.natAbs.log2 < 1000000
  have p1 := log2_lt (b := b + 1) (Nat.lt_of_lt_of_le h1 (Nat.pow_le_pow_right (by decide) (Nat.le_succ b))) (Nat.succ_pos b)
  have p2 := log2_lt (b := b' + 1) (Nat.lt_of_lt_of_le h2 (Nat.pow_le_pow_right (by decide) (Nat.le_succ b'))) (Nat.succ_pos b')
  omega
theorem mul_lt {i j : Int} {b b' : Nat} (h1 : i.natAbs < 2 ^ b) (h2 : j.natAbs < 2 ^ b') : (i * j).natAbs < 2 ^ (b + b') := by
  rw [Int.natAbs_mul, Nat.pow_add]
  exact Nat.mul_lt_mul'' h1 h2
theorem add_lt {i j : Int} {b b' : Nat} (h1 : i.natAbs < 2 ^ b) (h2 : j.natAbs < 2 ^ b') : (i + j).natAbs < 2 ^ (max b b' + 1) := by
  have p1 := Nat.lt_of_lt_of_le h1 (Nat.pow_le_pow_right (n := 2) (by decide) (Nat.le_max_left b b'))
  have p2 := Nat.lt_of_lt_of_le h2 (Nat.pow_le_pow_right (n := 2) (by decide) (Nat.le_max_right b b'))
  have : (i + j).natAbs ≤ i.natAbs + j.natAbs := Int.natAbs_add_le i j
  rw [Nat.pow_succ]
  omega
theorem sub_lt {i j : Int} {b b' : Nat} (h1 : i.natAbs < 2 ^ b) (h2 : j.natAbs < 2 ^ b') : (i - j).natAbs < 2 ^ (max b b' + 1) := by
  rw [Int.sub_eq_add_neg]
  exact add_lt h1 (by rw [Int.natAbs_neg]; exact h2)
def com (n d : Int) : Int := if d < 0 then -(Int.gcd n d : Int) else (Int.gcd n d : Int)
theorem com_dvd_left (n d : Int) : com n d ∣ n := by
  unfold com
  split
  · exact Int.neg_dvd.mpr (Int.gcd_dvd_left ..)
  · exact Int.gcd_dvd_left ..
theorem com_dvd_right (n d : Int) : com n d ∣ d := by
  unfold com
  split
  · exact Int.neg_dvd.mpr (Int.gcd_dvd_right ..)
  · exact Int.gcd_dvd_right ..
theorem com_ne {n d : Int} (hd : d ≠ 0) : com n d ≠ 0 := by
  have h : (Int.gcd n d : Int) ≠ 0 := by
    intro z
    have := Int.gcd_eq_zero_iff.mp (Int.ofNat_eq_zero.mp z)
    exact hd this.2
  unfold com
  split
  · intro z; exact h (by omega)
  · exact h
theorem cut_num {n d : Int} (hd : d ≠ 0) : n.fdiv (com n d) = (Rat.divInt n d).num := by
  rw [Int.fdiv_eq_ediv_of_dvd (com_dvd_left n d), Rat.num_divInt, Int.gcd_comm d n]
  unfold com
  rcases Int.lt_trichotomy d 0 with h | h | h
  · rw [if_pos h, Int.sign_eq_neg_one_of_neg h, Int.ediv_neg, Int.neg_mul, Int.one_mul, Int.neg_ediv_of_dvd (Int.gcd_dvd_left ..)]
  · exact absurd h hd
  · rw [if_neg (by omega), Int.sign_eq_one_of_pos h, Int.one_mul]
theorem cut_den {n d : Int} (hd : d ≠ 0) : d.fdiv (com n d) = ((Rat.divInt n d).den : Int) := by
  rw [Int.fdiv_eq_ediv_of_dvd (com_dvd_right n d), Rat.den_divInt, if_neg hd, Int.gcd_comm d n]
  unfold com
  rcases Int.lt_trichotomy d 0 with h | h | h
  · rw [if_pos h, Int.ediv_neg, ← Int.neg_ediv_of_dvd (Int.gcd_dvd_right ..)]
    have e : -d = (d.natAbs : Int) := by omega
    rw [e]
    exact (Int.natCast_ediv ..).symm
  · exact absurd h hd
  · rw [if_neg (by omega)]
    have e : d = (d.natAbs : Int) := by omega
    conv => lhs; rw [e]
    rw [show Int.gcd n (d.natAbs : Int) = Int.gcd n d by simp [Int.gcd]]
    exact (Int.natCast_ediv ..).symm
theorem Rat.den_ne' (q : Rat) : (q.den : Int) ≠ 0 := by
  have := q.den_pos
  omega
theorem rat_add (p q : Rat) : Rat.divInt (p.num * q.den + q.num * p.den) (p.den * q.den) = p + q := by
  conv => rhs; rw [← Rat.num_divInt_den p, ← Rat.num_divInt_den q]
  rw [Rat.divInt_add_divInt _ _ (Rat.den_ne' p) (Rat.den_ne' q)]
theorem rat_mul (p q : Rat) : Rat.divInt (p.num * q.num) (p.den * q.den) = p * q := by
  conv => rhs; rw [← Rat.num_divInt_den p, ← Rat.num_divInt_den q]
  rw [Rat.divInt_mul_divInt]
def Nb (b : Nat) (i : Int) : Prop := i.natAbs < 2 ^ b
theorem Nb.mono {b b' : Nat} {i : Int} (h : Nb b i) (hb : b ≤ b') : Nb b' i := Nat.lt_of_lt_of_le h (Nat.pow_le_pow_right (by decide) hb)
theorem Nb.mul {i j : Int} {b b' : Nat} (h1 : Nb b i) (h2 : Nb b' j) : Nb (b + b') (i * j) := mul_lt h1 h2
theorem Nb.add {i j : Int} {b b' : Nat} (h1 : Nb b i) (h2 : Nb b' j) : Nb (max b b' + 1) (i + j) := add_lt h1 h2
theorem Nb.sub {i j : Int} {b b' : Nat} (h1 : Nb b i) (h2 : Nb b' j) : Nb (max b b' + 1) (i - j) := sub_lt h1 h2
theorem Nb.neg {i : Int} {b : Nat} (h1 : Nb b i) : Nb b (-i) := by unfold Nb; rw [Int.natAbs_neg]; exact h1
theorem Nb.abs {i : Int} {b : Nat} (h1 : Nb b i) : Nb b (i.natAbs : Int) := h1
theorem Nb.ok {i j : Int} {b b' : Nat} (h1 : Nb b i) (h2 : Nb b' j) (hb : b + b' ≤ 900000) : IntMulOk i j := mulOk h1 h2 hb
theorem Sz.num {q : Rat} {b : Nat} (h : Sz b q) : Nb b q.num := h.1
theorem Sz.den {q : Rat} {b : Nat} (h : Sz b q) : Nb b (q.den : Int) := h.2
theorem Sz.of {n d : Int} {b : Nat} (h1 : Nb b n) (h2 : Nb b d) (hd : d ≠ 0) : Sz b (Rat.divInt n d) := by
  have c := com_ne (n := n) hd
  have cd : ∀ k : Int, (k.fdiv (com n d)).natAbs ≤ k.natAbs ∨ ¬ com n d ∣ k := fun k => by
    by_cases hk : com n d ∣ k
    · refine .inl ?_
      rw [Int.fdiv_eq_ediv_of_dvd hk, Int.natAbs_ediv_of_dvd hk]
      exact Nat.div_le_self ..
    · exact .inr hk
  refine ⟨?_, ?_⟩
  · rw [← cut_num hd]
    rcases cd n with h | h
    · exact Nat.lt_of_le_of_lt h h1
    · exact absurd (com_dvd_left n d) h
  · have e := cut_den (n := n) hd
    rcases cd d with h | h
    · rw [e] at h
      exact Nat.lt_of_le_of_lt (by simpa using h) h2
    · exact absurd (com_dvd_right n d) h
theorem Sz.mul {p q : Rat} {b b' : Nat} (h1 : Sz b p) (h2 : Sz b' q) : Sz (b + b') (p * q) := by
  rw [← rat_mul]
  exact Sz.of (h1.num.mul h2.num) (h1.den.mul h2.den) (Int.mul_ne_zero (Rat.den_ne' p) (Rat.den_ne' q))
theorem Sz.add {p q : Rat} {b b' : Nat} (h1 : Sz b p) (h2 : Sz b' q) : Sz (b + b' + 1) (p + q) := by
  rw [← rat_add]
  exact Sz.of (((h1.num.mul h2.den).add (h2.num.mul h1.den)).mono (by omega)) ((h1.den.mul h2.den).mono (by omega)) (Int.mul_ne_zero (Rat.den_ne' p) (Rat.den_ne' q))
theorem Sz.neg {p : Rat} {b : Nat} (h1 : Sz b p) : Sz b (-p) := by
  unfold Sz
  rw [Rat.neg_num, Rat.neg_den, Int.natAbs_neg]
  exact h1
theorem Sz.sub {p q : Rat} {b b' : Nat} (h1 : Sz b p) (h2 : Sz b' q) : Sz (b + b' + 1) (p - q) := by
  rw [Rat.sub_eq_add_neg]
  exact h1.add h2.neg
theorem Sz.int {i : Int} {b : Nat} (h : Nb b i) (hb : 0 < b) : Sz b (i : Rat) := ⟨by simpa [Nb] using h, by
  rw [Rat.den_intCast]
  exact Nat.one_lt_two_pow (Nat.ne_of_gt hb)⟩
end Gm
namespace Gm
open PySem PySem.Spec PyProof.Rows L2
end Gm
namespace Gm
open PySem PySem.Spec PyProof.Rows L2
inductive All2 (R : D → D → Prop) : List D → List D → Prop where
  | nil : All2 R [] []
  | cons {a b : D} {as bs : List D} : R a b → All2 R as bs → All2 R (a :: as) (b :: bs)
end Gm
namespace Gm
open PySem PySem.Spec PyProof.Rows L2
end Gm
namespace Gm
open PySem PySem.Spec PyProof.Rows L2
end Gm
namespace Gm
open PySem PySem.Spec PyProof.Rows L2
end Gm
namespace Gm
open PySem PySem.W
open PySem.Spec PyProof.Rows L2
end Gm
namespace Gm
open PySem PySem.Spec PyProof.Rows L2
end Gm
namespace Gm
open PySem PySem.Spec PyProof.Rows L2
open PySem.W (ksFn kxs_mw)
section
variable {X : Cx} {pins : List (Addr × Obj)} {σ : St} {H : Hp} {s : Shared} {a C u : Addr} {A : Around}
end

structure SupC (P : Program) (K : PySem.W.Frag) (mg : Str → Option Value) (D cc cda : Addr) : Prop where
  T : OexC K D
  code : ∃ ccl cdd vs ccs file tf, K.lookup cda = some ⟨ccl, cdd, .fields vs, ccs⟩ ∧ vs[2]? = some (.str file tf) ∧ ((P.main.file : Str) == file) = true
  cell : ∃ cl cld csl, K.lookup cc = some ⟨cl, cld, .cell (some (.ref D)), csl⟩
  cd : ∃ cd, PySem.W.clsIn K D = some cd
  sub : PySem.W.mroIn K D (.ref D) = some true
  sup : mg "super" = none
  mt : PySem.W.ks_superIn K D D "__init__" = some (some (.builtin "ValueError.__init__"))
  ve : PySem.W.subIn K (.ref D) (.type "ValueError") = some true
  op : PySem.W.nsIn K cStatics "thirdparty.any" = some none
  top : (P.main.scope.names.lookup ("super" : Str)).isSome = false
end Gm
namespace Gm
open PySem PySem.Spec PyProof.Rows L2
def spI1 (D : Addr) (f : Str) : Sp := fun vs H Q E => ∃ a y, vs = [.ref a, y] ∧ H a = some (exo a D none) ∧ ∀ dx, H dx = none → dx ≠ a → Q .non (upd (upd H dx (exd dx [(f, y)])) a (exo a D (some dx)))
structure Xc1 (P : Program) (w : World) (K : PySem.W.Frag) (mg : Str → Option Value) (base : Heap) (k : Nat) (L : Lw) (i : Nat) (x : Str) (g : Nat) (fI : Addr) (fd : FuncData) (ps : List Str) : Prop where
  lay : L.lay i = [g]
  T : OexC K (L.cad i)
  iC : PySem.W.findIn K (.ref (L.cad i)) "__init__" = some (some (.ref fI))
  tI : PySem.W.typeIn K (.ref fI) = some (.type "function")
  fn : FnOk P w K mg base C8.CX0 k fI fd ps (spI1 (L.cad i) (L.nm g))
  bi : Binds K fd ps []
  m : mg x = some (.ref (L.cad i))
section
variable {L : Lw} {X : Cx} {Wx : WX} {k : Nat} {c : Fn} {x : Str} {e : Expr} {es : List Expr} {p pos pos2 : Pos}
structure Xc0 (K : PySem.W.Frag) (mg : Str → Option Value) (L : Lw) (i : Nat) (x : Str) : Prop where
  q : PySem.W.excIn K (L.cad i) [.type "ValueError", .type "Exception", .type "BaseException", .type "object"] "ValueError.__new__" = true
  k : PySem.W.keepIn K (.ref (L.cad i)) = true
  h1 : PySem.W.subIn K (.ref (L.cad i)) (.type "BaseException") = some true
  h2 : PySem.W.typeIn K (.ref (L.cad i)) = some (.type "type")
  m : mg x = some (.ref (L.cad i))
end
end Gm
namespace PySem.W
open PySem PySem.Spec PySem.Calls PyProof.Rows
section
variable {prog : Program} {w : World} {A : Around} {E : Value → Shared → Prop} {s : Shared} {K : Frag} {x D : Addr} {ox : Obj} {od : Option Obj}
theorem gm_find_data {C : Addr} {name : Str} {a g : Value} (hc : (clsIn K C).isSome = true) (ha : findIn K (.ref C) name = some (some a)) (hg : specialIn K a "__get__" = some (some g)) (ht : takesIn K a = some true) : findObj K C od name = some (.bind g a) := by
  obtain ⟨cd, hc⟩ := Option.isSome_iff_exists.mp hc
  unfold findObj
  rw [hc, Option.bind_some, ha, Option.bind_some]
  simp [hg, ht]
theorem gm_class {Q : Option Value → Shared → Prop} (C : L2.ExcC K D) (X : K.In s.heap) (I : InstAt s.heap x ox D od) (h : Q (some (.ref D)) { s with toks := s.toks + 1 }) : wpAny (model prog w) A (getAttr? (.ref x) "__class__") Q E s := by
  have hf : findObj K D od "__class__" = some (.bind (.builtin "getset_descriptor.__get__") (.builtin "object.__class__")) := gm_find_data (by obtain ⟨cd, hc, _⟩ := any_some C.hd; rw [hc]; rfl) C.ha C.hn C.ht
  obtain ⟨hp, g, d, t, os⟩ := s
  have T0 := I.type (M := model prog w)
  have T1 := looks_findIn (M := model prog w) X C.hg
  have T2 := looks_findIn (M := model prog w) X C.hk
  have T3 := looks_find (M := model prog w) X I hf
  have sub : Looks (model prog w) hp (isInstance (.ref x) (.type "BaseException")) true := T0.andThen (looks_subIn X C.hs)
  have hx2 : (Value.builtin "BaseException.__getattribute__" == Value.builtin "object.__getattribute__") = false := by decide +kernel
  have hx1 : (onTheHeap (Value.ref D) && Value.builtin "BaseException.__getattribute__" == Value.builtin "object.__getattribute__") = false := by rw [hx2]; rfl
  unfold getAttr? getAttrBy? getAttrBy
  refine wpAny_bind (wpAny_mkText (wpAny_bind (wpAny_attempt (wpAny_holding (wpAny_bind (T0.at (wpAny_bind (T1.at ?_))))))))
  show wpAny _ _ (if (onTheHeap (Value.ref D) && Value.builtin "BaseException.__getattribute__" == Value.builtin "object.__getattribute__") = true then _ else _) _ _ _
  rw [hx1, if_neg Bool.false_ne_true]
  unfold getAttrByItsOwn hookBefore
  refine wpAny_bind ?_
  rw [if_pos (show onTheHeap (Value.ref D) = true from rfl)]
  refine T2.at ?_
  refine wpAny_bind (wpAny_attempt (wpAny_holding ?_))
  unfold callGetattribute
  rw [show (false && onTheHeap (Value.builtin "BaseException.__getattribute__")) = false from rfl, if_neg Bool.false_ne_true]
  unfold boundAndCalled
  rw [PySem.F.excAttr_ValueError.ga.bind (.ref x)]
  refine wpAny_bind (wpAny_pure ?_)
  show wpAny _ _ (call (.builtin "BaseException.__getattribute__") [.ref x, .str "__class__" t]) _ _ _
  refine wpAny_call (codeAny_call_builtin PySem.F.excAttr_ValueError.ga.plain PySem.F.entry_bexc_ga ?_)
  refine @check_slot (model prog w) _ _ ⟨hp, g, d, t + 1, os⟩ "BaseException.__getattribute__" "BaseException" "__getattribute__" (.ref x) [.str "__class__" t] [] _ (by decide +kernel) (by decide +kernel) sub (PySem.F.args_bexc_ga (.ref x) (.str "__class__" t)) ?_
  unfold Builtin.«object.__getattribute__»
  refine wpAny_bind (wpAny_of_eq (a := ((Value.ref x : Value), [Value.str "__class__" t])) (by first | rfl | (simp only [slotArgs]; rfl)) ?_)
  refine wpAny_bind (wpAny_pure (wpAny_bind (T0.at (wpAny_bind (T3.at ?_)))))
  show wpAny _ _ (holding [Value.builtin "object.__class__"] (call (.builtin "getset_descriptor.__get__") [.builtin "object.__class__", .ref x, .ref D]) >>= ret) _ _ _
  refine wpAny_bind (wpAny_holding (wpAny_call (class_get (s := ⟨hp, g, d, t + 1, os⟩) (ox := ox) (od := od) X I C.hm ?_)))
  refine wpAny_pure ?_
  show wpAny _ _ (handedOut (.ref D)) _ _ _
  rw [handedOut_of (v := .ref D) rfl]
  first
    | exact wpAny_pure (wpAny_pure h)
    | exact wpAny_pure h
    | exact wpAny_pure (wpAny_bind (wpAny_pure (wpAny_pure h)))
theorem gm_kitx (C : L2.ExcC K D) : KitX K (.ref x) (.ref D) (fun h => ∃ od, InstAt h x ox D od) where
  ty := fun _ _ _ ⟨_, I⟩ => I.type
  it := fun _ _ X _ => by
    obtain ⟨cdD, hcD, _⟩ := any_some C.hd
    unfold clsIn at hcD
    split at hcD
    · rename_i c' d' cd' sl' ho
      intro A' Q' E' s' k q
      unfold isType loadHead
      exact wpAny_bind (wpAny_loadPart (k _ _ (X _ _ ho)) (wpAny_pure q))
    · cases hcD
  ne := (handS_kitx_exc (x := x) (ox := ox) C.hg C.hk C.hs C.hd C.ha C.hn C.ht C.hm).ne
  ca := fun X ⟨_, I⟩ k => gm_class C X I k
end
end PySem.W
namespace Gm
open PySem PySem.Spec PyProof.Rows L2
def rIsX (K : PySem.W.Frag) (D a : Addr) (d : Option Addr) : List V → Hp → VK → Prop := fun xs H Q => (∀ dd, d = some dd → ∃ fs, H dd = some (.xd fs)) ∧ ∃ (c : V) (cv : Value) (b : Bool), xs = [.ref a, c] ∧ (∀ u, RelV c u → u = cv) ∧ PySem.W.kitOne K (.ref D) cv = some b ∧ Q (.bl b) H
theorem call_isX {X : Cx} {a D : Addr} {oe : Obj} {d : Option Addr} {pn : List (Addr × Obj)} (C : ExcC X.K D) (hz : Zc (.ref D) d oe) (hf : ∃ vs, oe.data = .fields vs) : CallR (X.suite a ((a, oe) :: pn)) (.builtin "isinstance") (rIsX X.K D a d) := by
  intro pins s σ H xs us Q I r h
  obtain ⟨hd, c, cv, b, rfl, hcv, e, q⟩ := h
  cases r with
  | cons rx rr =>
    cases rr with
    | cons rt rr =>
      cases rr
      cases rx
      have ec := hcv _ rt
      subst ec
      obtain ⟨hget, _⟩ := I.pin (a, oe) (List.mem_append.mpr (.inl List.mem_cons_self))
      obtain ⟨vs, hv⟩ := hf
      have J : ∃ od, PySem.W.InstAt s.heap a oe D od := by
        obtain ⟨oc, od, oda, osl⟩ := oe
        obtain ⟨h1, h2⟩ := hz
        dsimp only at h1 h2 hv
        subst h1 h2 hv
        cases od with
        | none => exact ⟨none, hget, rfl, rfl, trivial⟩
        | some dd =>
          obtain ⟨fs, e⟩ := hd dd rfl
          obtain ⟨u, hu⟩ := objOk_get (I.hok dd _ e)
          exact ⟨some u, hget, rfl, rfl, hu⟩
      exact PySem.W.kia_one (PySem.W.gm_kitx C) I.kIn J e (fun z => nomatch z) fun tk => ⟨.bl b, H, I.kept (t' := tk) fun _ _ z => z, rfl, q⟩
end Gm
namespace Gm
open PySem PySem.Spec PyProof.Rows L2
abbrev Clause := Value × Option Nat × (Addr → Value → Option Addr → TS)
inductive HdsMix (X : Cx) : List ExceptHandler → List Clause → Prop
  | nil : HdsMix X [] []
  | plain {x : Str} {c : Value} {ts : Addr → Value → Option Addr → TS} {b₀ : Stmt} {suite : List Stmt} {np pos' : Pos} {hds : List ExceptHandler} {l : List Clause} (hc : Names X x c)
      (hsu : ∀ (a : Addr) (oe : Obj) (cls : Value) (d : Option Addr) (pn : List (Addr × Obj)), Zc cls d oe → (∃ vs, oe.data = .fields vs) → PSs (X.suite a ((a, oe) :: pn)) (b₀ :: suite) (ts a cls d)) (r : HdsMix X hds l) :
      HdsMix X (.ExceptHandler (some (.Name x np)) none (b₀ :: suite) pos' :: hds) ((c, none, ts) :: l)
  | named {x n : Str} {i : Nat} {c : Value} {ts : Addr → Value → Option Addr → TS} {b₀ : Stmt} {suite : List Stmt} {np pos' : Pos} {hds : List ExceptHandler} {l : List Clause} (hc : Names X x c) (hi : X.N[i]? = some n) (hln : X.env.kindOf n = some .local)
      (hsu : ∀ (a : Addr) (oe : Obj) (cls : Value) (d : Option Addr) (pn : List (Addr × Obj)), Zc cls d oe → (∃ vs, oe.data = .fields vs) → PSs (X.suite a ((a, oe) :: pn)) (b₀ :: suite) (ts a cls d)) (r : HdsMix X hds l) :
      HdsMix X (.ExceptHandler (some (.Name x np)) (some n) (b₀ :: suite) pos' :: hds) ((c, some i, ts) :: l)
section
variable {X : Cx} {body : List Stmt} {h₀ : ExceptHandler} {hds : List ExceptHandler} {l : List Clause} {pos : Pos} {tb : WX → TS} {Wout : WX}
end
end Gm
namespace Gm
open PySem PySem.Spec PyProof.Rows L2
section
variable (L : Lw) (K : PySem.W.Frag) (a : Addr) (cls : Value) (d : Option Addr) (oi : Option Nat)
structure SxC (W : Wd) (st : Store) (σ : St) (H : Hp) (x : Exn) : Prop where
  S : Sok K L W st H
  xr : XR K L W x cls d
  at_ : ∀ i, oi = some i → i < σ.length → σ[i]? = some (some (.ref a))
def sxT (g : Exn → Store → Option D) : TE := fun σ H Q => ∃ W st x dv, SxC L K a cls d oi W st σ H x ∧ g x st = some dv ∧ ∀ W' H' v, W.le W' → Sok K L W' st H' → Rl K L W' dv v → Q v H'
def saT (g : Exn → Store → Option (List D)) : TA := fun σ H Q => ∃ W st x dv, SxC L K a cls d oi W st σ H x ∧ g x st = some dv ∧ ∀ W' H' v, W.le W' → Sok K L W' st H' → Rls K L W' dv v → Q v H'
end
theorem XR.mono {K : PySem.W.Frag} {L : Lw} {W W' : Wd} {x : Exn} {cls : Value} {d : Option Addr} (h : XR K L W x cls d) (e : W.le W') : XR K L W' x cls d := by
  obtain ⟨h1, h2 | ⟨dd, vs, h2, h3, h4, h5⟩⟩ := h
  · exact ⟨h1, .inl h2⟩
  · exact ⟨h1, .inr ⟨dd, vs, h2, e.1 _ _ h3, h4, h5.mono e⟩⟩
theorem SxC.next {L : Lw} {K : PySem.W.Frag} {a : Addr} {cls : Value} {d : Option Addr} {oi : Option Nat} {W W' : Wd} {st : Store} {σ : St} {H H' : Hp} {x : Exn} (c : SxC L K a cls d oi W st σ H x) (e : W.le W') (S : Sok K L W' st H') : SxC L K a cls d oi W' st σ H' x :=
  ⟨S, c.xr.mono e, c.at_⟩
structure SX (L : Lw) (X : Cx) (oi : Option Nat) (e : Expr) (g : Exn → Store → Option D) : Prop where
  run : ∀ (a : Addr) (oe : Obj) (cls : Value) (d : Option Addr) (pn : List (Addr × Obj)), Zc cls d oe → (∃ vs, oe.data = .fields vs) → PE (X.suite a ((a, oe) :: pn)) e (sxT L X.K a cls d oi g)
structure SA (L : Lw) (X : Cx) (oi : Option Nat) (es : List Expr) (g : Exn → Store → Option (List D)) : Prop where
  len : ∀ x st ds, g x st = some ds → ds.length = es.length
  run : ∀ (a : Addr) (oe : Obj) (cls : Value) (d : Option Addr) (pn : List (Addr × Obj)), Zc cls d oe → (∃ vs, oe.data = .fields vs) → PA (X.suite a ((a, oe) :: pn)) es (saT L X.K a cls d oi g)
section
variable {L : Lw} {X : Cx} {oi : Option Nat} {e : Expr} {es : List Expr} {pos p p1 p2 p3 : Pos}
theorem var_suite {i : Nat} {n : Str} {a : Addr} {oe : Obj} {cls : Value} {d : Option Addr} {pn pins : List (Addr × Obj)} {W : Wd} {st : Store} {σ : St} {H : Hp} {s : Shared} {x : Exn} (hN : X.N[i]? = some n) (I : Inv (X.suite a ((a, oe) :: pn)) pins σ H s) (c : SxC L X.K a cls d (some i) W st σ H x) : σ[i]? = some (some (.ref a)) := by
  refine c.at_ i rfl ?_
  have h1 := I.len
  have h2 : i < X.N.length := (List.getElem?_eq_some_iff.mp hN).1
  have h3 : σ.length = X.N.length := h1
  omega
theorem sx_isx {i c0 : Nat} {n y : Str} {b : Bool} {cv : Value} {vv : V} (T : ExcC X.K (L.cad c0)) (hN : X.N[i]? = some n) (hv : Vis X.env.scope n) (hg : Gl X "isinstance") (hm : X.mg "isinstance" = none) (hy : ∀ (a : Addr) (oe : Obj) (pn : List (Addr × Obj)), PE (X.suite a ((a, oe) :: pn)) (.Name y p2) (tC vv)) (hcv : ∀ u, RelV vv u → u = cv)
    (hk : PySem.W.kitOne X.K (.ref (L.cad c0)) cv = some b) (hd : (n == ("__debug__" : Str)) = false := by decide) (hcd : (n == ("__classdict__" : Str)) = false := by decide)
    (hs : starEach [.Name n p1, .Name y p2] X.env = (false, eval (.Name n p1) X.env) :: starEach [.Name y p2] X.env := by rfl) (hpl : (backTo pos (starEach [.Name y p2] X.env)).any (·.1) = false := by rfl) (hs2 : starEach [.Name y p2] X.env = (false, eval (.Name y p2) X.env) :: starEach [] X.env := by rfl) :
    SX L X (some i) (.Call (.Name "isinstance" p) [.Name n p1, .Name y p2] [] pos) (fun x _ => if x.c = c0 then some (.bl b) else none) := by
  refine ⟨fun a oe cls d pn hz hf => ⟨fun pins s σ H Q I ⟨W, st, x, dv, c, e1, q⟩ => ?_⟩⟩
  dsimp only at e1
  split at e1
  · rename_i hc
    cases e1
    obtain ⟨xr1, xr2⟩ := c.xr
    rw [hc] at xr1 xr2
    subst xr1
    refine (pe_callB (X := X.suite a ((a, oe) :: pn)) (p := p) (pos := pos) (call_isX T hz hf) hg hm PyProof.Rows.boot_isinstance (pa_cons (pe_var (X := X.suite a ((a, oe) :: pn)) (pos := p1) hN hv hd hcd) (pa_cons (hy a oe pn) pa_nil hs2) hs) (by decide) (by decide) hs hpl).run pins s σ H Q I ?_
    refine ⟨.ref a, var_suite hN I c, ?_⟩
    show rIsX X.K (L.cad c0) a d [.ref a, vv] H Q
    refine ⟨fun dd hdd => ?_, vv, cv, b, rfl, hcv, hk, q W H _ .rfl' c.S (Rl.bl.mpr rfl)⟩
    rcases xr2 with ⟨_, h1⟩ | ⟨dd', vs, h1, h2, h3, h4⟩
    · rw [h1] at hdd; cases hdd
    · rw [h1] at hdd; cases hdd
      exact ⟨_, c.S.fz _ _ h2⟩
  · cases e1
end
end Gm
namespace Gm
open PySem PySem.Spec PyProof.Rows L2
inductive Hm where
  | ret (g : Exn → Store → Option D) | set (j : Nat) (g : Exn → Store → Option D)
def Hm.g : Hm → Exn → Store → Option D
  | .ret g => g
  | .set _ g => g
def Hm.ends (m : Hm) (D : Ends) (σ : St) (v : V) (H : Hp) : Prop := match m with
  | .ret _ => D.rt v H
  | .set j _ => D.nx (σ.set j (some v)) H
def Hm.apart : Hm → Option Nat → Prop
  | .set j _, some i => j ≠ i
  | _, _ => True
structure Hc where
  t : Nat → Option Bool
  oi : Option Nat
  m : Hm
def hmT (L : Lw) (K : PySem.W.Frag) (oi : Option Nat) (m : Hm) (a : Addr) (cls : Value) (d : Option Addr) : TS := fun D σ H => ∃ W st x dv, SxC L K a cls d oi W st σ H x ∧ m.g x st = some dv ∧ ∀ W' H' v, W.le W' → Sok K L W' st H' → Rl K L W' dv v → m.ends D σ v H'
structure HR (L : Lw) (X : Cx) (oi : Option Nat) (suite : List Stmt) (m : Hm) : Prop where
  ap : m.apart oi
  run : ∀ (a : Addr) (oe : Obj) (cls : Value) (d : Option Addr) (pn : List (Addr × Obj)), Zc cls d oe → (∃ vs, oe.data = .fields vs) → PSs (X.suite a ((a, oe) :: pn)) suite (hmT L X.K oi m a cls d)
section
variable {L : Lw} {X : Cx} {Wx : WX} {k : Nat} {c : Fn} {oi : Option Nat} {e : Expr} {pos p : Pos}
inductive HdsR (L : Lw) (X : Cx) : List ExceptHandler → List Hc → Prop
  | nil : HdsR L X [] []
  | plain {x : Str} {cv : Value} {t : Nat → Option Bool} {m : Hm} {b₀ : Stmt} {suite : List Stmt} {np pos' : Pos} {hds : List ExceptHandler} {l : List Hc} (hc : Names X x cv) (ht : ∀ c b, t c = some b → PySem.W.exmOne X.K (.ref (L.cad c)) cv = some b)
      (h : HR L X none (b₀ :: suite) m) (r : HdsR L X hds l) : HdsR L X (.ExceptHandler (some (.Name x np)) none (b₀ :: suite) pos' :: hds) (⟨t, none, m⟩ :: l)
  | named {x n : Str} {i : Nat} {cv : Value} {t : Nat → Option Bool} {m : Hm} {b₀ : Stmt} {suite : List Stmt} {np pos' : Pos} {hds : List ExceptHandler} {l : List Hc} (hc : Names X x cv) (ht : ∀ c b, t c = some b → PySem.W.exmOne X.K (.ref (L.cad c)) cv = some b) (hi : X.N[i]? = some n) (hln : X.env.kindOf n = some .local)
      (h : HR L X (some i) (b₀ :: suite) m) (r : HdsR L X hds l) : HdsR L X (.ExceptHandler (some (.Name x np)) (some n) (b₀ :: suite) pos' :: hds) (⟨t, some i, m⟩ :: l)
end
end Gm
namespace Gm
open PySem PySem.Spec PyProof.Rows L2 LamX
section
variable {K : PySem.W.Frag} {L : Lw} {W : Wd} {st : Store} {H H1 : Hp}
theorem Sok.made (s : Sok K L W st H) (e : ExtN H H1) (t : Tabs L.tabs H1) : Sok K L W st H1 := by
  refine ⟨fun a o h => e a o (s.fz a o h) (s.nt a o h), s.len, fun n c a e1 e2 => ?_, s.ap, s.inj, s.nt, t⟩
  have h := s.cell n c a e1 e2
  cases c with
  | lst ds => obtain ⟨vs, h1, h2⟩ := h; exact ⟨vs, e a _ h1 (fun ps z => by cases z), h2⟩
  | rol ds =>
    obtain ⟨vs, h1, h2⟩ := h
    refine ⟨vs, ?_, h2⟩
    rcases h1 with ⟨o, h⟩ | h
    · exact .inl ⟨o, e a _ h (fun ps z => by cases z)⟩
    · exact .inr h
  | dic kvs => obtain ⟨vs, h1, h2⟩ := h; exact ⟨vs, e a _ h1 (fun ps z => by cases z), h2⟩
  | ins c fs => obtain ⟨dx, vs, h1, h2⟩ := h; exact ⟨dx, vs, e a _ h1 (fun ps z => by cases z), h2⟩
  | dead => trivial
  | clo j F γ => exact s.cell n _ a e1 e2
end
def ansH (x : Exn) (st : Store) : List Hc → Option D
  | [] => none
  | h :: r => match h.t x.c with
    | none => none
    | some false => ansH x st r
    | some true => h.m.g x st
def EX (L : Lw) (K : PySem.W.Frag) (hs : List Hc) (Q : VK) : XK := fun cls dx H => ∃ W st x dv, Sok K L W st H ∧ XR K L W x cls dx ∧ ansH x st hs = some dv ∧ ∀ W' H' v, W.le W' → Sok K L W' st H' → Rl K L W' dv v → Q v H'
def TTm (L : Lw) (K : PySem.W.Frag) (hs : List Hc) (v0 : V) : (XK → Hp → VK → Prop) → Hp → VK → Prop := fun tl H Q => tl (EX L K hs Q) H (fun _ H' => Q v0 H')
section
variable {L : Lw} {X : Cx} {Wx : WX} {k : Nat} {c : Fn}
theorem Gd.lam (G : Gd L X Wx k c) {k' : Nat} {c' : Fn} (fo : FOk L X.prog X.w X.K X.mg X.base k' c') {A : Around} {outer : List Env} {s : Shared} {H : Hp} {E : XK} {scope : Scope} {f ca : Addr} (hr : Room (k' + 9) (A.deeper (lamEnv X scope s.heap.objs.size f ca))) :
    Gd L (lamCx X A outer s H E scope f ca) (fun cls d _ H' => E cls d H') k' c' := ⟨fo, hr, takes_of rfl rfl rfl rfl, rfl, passes_of rfl, G.nd⟩
end

section
variable {L : Lw} {X : Cx} {Ng : List Str} {x a q : Str} {sg : Scope} {g : Addr} {cdg : Value} {hs : List Hc} {h₀ : ExceptHandler} {hds : List ExceptHandler} {p1 p2 pe pt : Pos}
end
section
variable {L : Lw} {X : Cx} {Wx : WX} {k : Nat} {c : Fn}
end
end Gm
namespace Gm
open PySem PySem.Spec PyProof.Rows L2
def oexB (K : PySem.W.Frag) (C : Addr) : Bool := (match K.lookup C with
  | some ⟨.type "type", _, .cls cd, sl⟩ => (match cd.mro, sl.toList with
    | .ref C' :: bm, [_, _, _, _, some (.builtin n), _] => C' == C && n == "ValueError.__new__" && !cd.hasDel && cd.hasDict && PySem.HandSPX.refsVE bm
    | _, _ => false)
  | _ => false) && He.eqO (PySem.W.findIn K (.ref C) "__setattr__") (some (some (.builtin "object.__setattr__"))) && decide (PySem.W.subIn K (.ref C) (.type "BaseException") = some true) && decide (PySem.W.typeIn K (.ref C) = some (.type "type")) && PySem.W.keepIn K (.ref C)
def fileB (K : PySem.W.Frag) (cda : Addr) (file : Str) : Bool := match K.lookup cda with
  | some ⟨_, _, .fields vs, _⟩ => (match (vs[2]? : Option Value) with
    | some (.str f _) => f == file
    | _ => false)
  | _ => false
def cellB (K : PySem.W.Frag) (cc C : Addr) : Bool := match K.lookup cc with
  | some ⟨_, _, .cell (some (.ref D)), _⟩ => D == C
  | _ => false
def initA (K : PySem.W.Frag) (x : Str) : Addr := He.ma K (He.ga K x) "__init__"
def supB (file : Str) (K : PySem.W.Frag) (x : Str) : Bool := (match fdO (K.lookup (initA K x)) with
  | some fd => (match fd.code, fd.closure with
    | .ref cda, [(n, cc)] => n == "__class__" && PySem.W.codeIn K fd.code fd.qualname && fileB K cda file && cellB K cc (He.ga K x) && (match fd.defaults with | .none => true | _ => false)
    | _, _ => false)
  | none => false) && oexB K (He.ga K x) && (PySem.W.clsIn K (He.ga K x)).isSome && decide (PySem.W.mroIn K (He.ga K x) (.ref (He.ga K x)) = some true) &&
  He.eqO (PySem.W.ks_superIn K (He.ga K x) (He.ga K x) "__init__") (some (some (.builtin "ValueError.__init__"))) && decide (PySem.W.subIn K (.ref (He.ga K x)) (.type "ValueError") = some true) && He.eqO (PySem.W.nsIn K cStatics "thirdparty.any") (some none) &&
  He.eqO (PySem.W.findIn K (.ref (He.ga K x)) "__init__") (some (some (.ref (initA K x)))) && decide (PySem.W.typeIn K (.ref (initA K x)) = some (.type "function"))
abbrev FxW : Type := Option (Str × Str × Arguments × FuncBody × Scope × Addr × List Str × Addr)
def fwX (K : PySem.W.Frag) (x : Str) : FxW := match fdO (K.lookup (initA K x)) with
  | some f => some (f.name, f.qualname, f.params, f.body, f.scope, f.globals, f.closure.map (·.1), f.builtins)
  | none => none
def valX (q : Str) (st : Stmt) : FxW := some ("__init__", q, defArgs st, .stmts (defBody st), defScope st, mainGlobals, ["__class__"], builtinsNs)
end Gm
namespace Gm
open PySem PySem.Spec PyProof.Rows L2
def csOf (t : Tb) (K : PySem.W.Frag) : List (Addr × Addr) := t.lam.map fun p => (codeA K p.1, He.tabOf K (codeA K p.1))
def tabsB (g : Addr → Option Obj) (cs : List (Addr × Addr)) (K : PySem.W.Frag) : Bool := cs.all fun p => PySem.W.codeHdIn K p.1 p.2 && (match g p.2 with
  | some o => He.emptyTab o
  | none => false)
def apartB (t : Tb) (K : PySem.W.Frag) : Bool := (t.lw K).tabs.all fun p => (t.lw K).tabs.all fun q => !(p.1 == q.1) || p.2 == q.2
def fragT (g : Addr → Option Obj) (n : Nat) : PySem.W.Frag := He.frT g (asS g n [mainGlobals] ++ [cStatics])
abbrev AlY : Type := Bool × List He.FnW × List FxW
def obsY (n : Nat) (fa : List He.Fa) (fn : List He.DefD) (ex : PySem.W.Frag → Bool) (xs : List Str) (t : Tb) (g : Addr → Option Obj) : AlY :=
  ((obsG fa fn ex (fragT g n)).1 && tabsB g (csOf t (fragT g n)) (fragT g n), (obsG fa fn ex (fragT g n)).2, xs.map (fwX (fragT g n)))
def valY (fn : List He.DefD) (xv : List FxW) : AlY := (true, fn.map He.DefD.val, xv)
structure SaysY (fa : List He.Fa) (fn : List He.DefD) (ex : PySem.W.Frag → Bool) (xs : List Str) (xv : List FxW) (t : Tb) (h : Heap) (K : PySem.W.Frag) : Prop where
  s : Says fa fn ex K
  x : xs.map (fwX K) = xv
  hd : ∀ p ∈ csOf t K, PySem.W.codeHdIn K p.1 p.2 = true
  out : ∀ p ∈ csOf t K, K.lookup p.2 = none
  empty : ∀ p ∈ csOf t K, h.get? p.2 = some { cls := .none, data := .fields #[] }
theorem saysY_of {n : Nat} {fa : List He.Fa} {fn : List He.DefD} {ex : PySem.W.Frag → Bool} {xs : List Str} {xv : List FxW} {t : Tb} {h : Heap} (e : obsY n fa fn ex xs t h.get? = valY fn xv) : SaysY fa fn ex xs xv t h (fragT h.get? n) := by
  have e1 : ((obsG fa fn ex (fragT h.get? n)).1 && tabsB h.get? (csOf t (fragT h.get? n)) (fragT h.get? n)) = true := congrArg (fun z : AlY => z.1) e
  have e2 : (obsG fa fn ex (fragT h.get? n)).2 = fn.map He.DefD.val := congrArg (fun z : AlY => z.2.1) e
  have e3 : xs.map (fwX (fragT h.get? n)) = xv := congrArg (fun z : AlY => z.2.2) e
  obtain ⟨h1, h2⟩ := Bool.and_eq_true_iff.mp e1
  have key : ∀ p ∈ csOf t (fragT h.get? n), PySem.W.codeHdIn (fragT h.get? n) p.1 p.2 = true ∧ ∃ o, h.get? p.2 = some o ∧ He.emptyTab o = true := fun p hp => by
    obtain ⟨h3, h4⟩ := Bool.and_eq_true_iff.mp (List.all_eq_true.mp h2 p hp)
    refine ⟨h3, ?_⟩
    cases q : h.get? p.2 with
    | none => rw [q] at h4; cases h4
    | some o => rw [q] at h4; exact ⟨o, rfl, h4⟩
  refine ⟨Prod.ext h1 e2, e3, fun p hp => (key p hp).1, fun p hp => ?_, fun p hp => ?_⟩
  · obtain ⟨_, o, q, z⟩ := key p hp
    exact He.frT_none q z
  · obtain ⟨_, o, q, z⟩ := key p hp
    rw [q, He.emptyTab_eq z]
def hookY (n : Nat) (fa : List He.Fa) (fn : List He.DefD) (ex : PySem.W.Frag → Bool) (xs : List Str) (xv : List FxW) (t : Tb) : PySem.W.Hook where
  α := AlY
  obs s := obsY n fa fn ex xs t s.heap.get?
  val _ := valY fn xv
  says _ h := ∃ K : PySem.W.Frag, K.In h ∧ SaysY fa fn ex xs xv t h K
  of _ _ e := ⟨_, He.frT_in, saysY_of e⟩
  keeps _ _ _ a k := a.elim fun K b => ⟨K, PySem.W.Frag.In.keeps b.1 k, ⟨b.2.s, b.2.x, b.2.hd, b.2.out, fun p hp => k _ _ (b.2.empty p hp)⟩⟩
end Gm
namespace Gm
open PySem PySem.Spec PyProof.Rows L2
def exmB (t : Tb) (K : PySem.W.Frag) (l : List (Nat × Bool)) (cv : Value) : Bool := l.all fun p => decide (PySem.W.exmOne K (.ref (t.cad K p.1)) cv = some p.2)
def excCB (K : PySem.W.Frag) (D : Addr) : Bool := He.eqO (PySem.W.findIn K (.ref D) "__getattribute__") (some (some (.builtin "BaseException.__getattribute__"))) && (He.eqO (PySem.W.findIn K (.ref D) "__getattr__") (some none) && (decide (PySem.W.subIn K (.ref D) (.type "BaseException") = some true) && (PySem.W.hasDictIn K D &&
  (He.eqO (PySem.W.findIn K (.ref D) "__class__") (some (some (.builtin "object.__class__"))) && (He.eqO (PySem.W.specialIn K (.builtin "object.__class__") "__get__") (some (some (.builtin "getset_descriptor.__get__"))) && (decide (PySem.W.takesIn K (.builtin "object.__class__") = some true) && decide (PySem.W.mroIn K D (.type "object") = some true)))))))
end Gm
namespace PySem.SeqAt
open AutoSeq1 (wpAny_loadPart')
open MeetsSeq MeetsSeq2 MeetsSeq3 SeqRoads2
end PySem.SeqAt

namespace Gm
open PySem PySem.Spec PyProof.Rows L2
section
variable {X : Cx} {pins : List (Addr × Obj)} {σ : St} {H : Hp} {s : Shared}
structure TupsAre (K : PySem.W.Frag) (H : Hp) (vs : List V) (nss : List (List Int)) : Prop where
  len : vs.length = nss.length
  at_ : ∀ (i : Nat) (p : V) (ns : List Int), vs[i]? = some p → nss[i]? = some ns → ∃ a : Addr, p = V.ref a ∧ SqT K H a (ns.map V.int)
end
section
variable {K : PySem.W.Frag} {L : Lw} {W : Wd} {st : Store} {H : Hp}
end
section
variable {L : Lw} {X : Cx} {Wx : WX} {k : Nat} {c : Fn} {o e : Expr} {apos pos : Pos}
end
end Gm
namespace Gm
open PySem PySem.Spec PyProof.Rows L2 LamX
section
variable {K : PySem.W.Frag} {L : Lw} {W : Wd} {st : Store} {H : Hp}
theorem Sok.more (s : Sok K L W st H) {p : Addr} {j : Nat} {F : LF} {γ : List (Str × Addr)} (hc : CloR W p F γ) : Sok K L (W.more p) (st ++ [Cell.clo j F γ]) H := by
  have sp : ∀ {n x a}, (st ++ [Cell.clo j F γ])[n]? = some x → (W.io ++ [p])[n]? = some a → (st[n]? = some x ∧ W.io[n]? = some a) ∨ (x = Cell.clo j F γ ∧ a = p) := fun {n x a} h1 h2 => by
    by_cases hn : n < st.length
    · rw [List.getElem?_append_left hn] at h1
      rw [List.getElem?_append_left (by rw [← s.len]; exact hn)] at h2
      exact .inl ⟨h1, h2⟩
    · have hl : n < (st ++ [Cell.clo j F γ]).length := (List.getElem?_eq_some_iff.mp h1).1
      rw [List.length_append, List.length_singleton] at hl
      have hn' : n = st.length := by omega
      subst hn'
      rw [List.getElem?_append_right (Nat.le_refl _), Nat.sub_self] at h1
      rw [s.len, List.getElem?_append_right (Nat.le_refl _), Nat.sub_self] at h2
      exact .inr ⟨(Option.some.inj h1).symm, (Option.some.inj h2).symm⟩
  refine ⟨s.fz, ?_, fun n c a e1 e2 => ?_, fun n c a e1 e2 e3 => ?_, fun m n c c' a e1 e2 l1 l2 e3 e4 => ?_, s.nt, s.tb⟩
  · show _ = (W.io ++ [p]).length
    rw [List.length_append, List.length_append, s.len]
    rfl
  · rcases sp e1 e2 with ⟨h1, h2⟩ | ⟨rfl, rfl⟩
    · exact (s.cell n c a h1 h2).mono Wd.le_more fun _ z => z
    · exact hc
  · rcases sp e1 e3 with ⟨h1, h2⟩ | ⟨rfl, rfl⟩
    · exact s.ap n c a h1 e2 h2
    · cases e2
  · rcases sp e1 e3 with ⟨h1, h2⟩ | ⟨rfl, _⟩
    · rcases sp e2 e4 with ⟨h3, h4⟩ | ⟨rfl, _⟩
      · exact s.inj m n c c' a h1 h3 l1 l2 h2 h4
      · cases l2
    · cases l1
end
section
variable {X : Cx} {pins : List (Addr × Obj)} {σ : L2.St} {H : Hp} {s : Shared}
end
section
variable {L : Lw} {X : Cx} {Wx : WX} {k : Nat} {c : Fn}
end
end Gm
namespace Gm
open PySem PySem.Spec PyProof.Rows L2 LamX
section
variable {X : Cx} {pins : List (Addr × Obj)} {σ : L2.St} {H : Hp} {s : Shared}
end
structure BodyOk (L : Lw) (X : Cx) (k : Nat) (c : Fn) (F : LF) (f : Fe) : Prop where
  qual : F.qual = X.env.qual ++ "<lambda>"
  ls : LamS X.env.scope F.scope
  bind : ∀ (q : Str) (cl : List (Str × Addr)) (pm cv ctv : Value), bindArgs (PySem.W.kla_fn "<lambda>" q F.params F.body F.scope cl pm cv ctv) ⟨[], []⟩ = pure []
  body : ∀ (X' : Cx) (Wx' : WX), (∃ A outer s H E fa ca, X' = lamCx X A outer s H E F.scope fa ca) → Gd L X' Wx' k c → RE L X' Wx' F.body f
inductive BsOk (L : Lw) (X : Cx) (k : Nat) (c : Fn) : List (LF × Fe) → Prop
  | nil : BsOk L X k c []
  | cons {F : LF} {f : Fe} {bs : List (LF × Fe)} : BodyOk L X k c F f → BsOk L X k c bs → BsOk L X k c ((F, f) :: bs)
structure TryD (L : Lw) (X : Cx) (hs : List Hc) (d0 : D) (v0 : V) (x a : Str) (g : Addr) (stg : Stmt) (fdg : FuncData) (Ng : List Str) : Prop where
  d0 : ∀ W, Rl X.K L W d0 v0
  m : X.mg x = some (.ref g)
  k : PySem.W.keepIn X.K (.ref g) = true
  F : FunG X.K x x stg g fdg
  b : L2.Binds X.K fdg [a] []
  S : FnScope Ng [a] (defScope stg)
  N : Ng[0]? = some a
  v : Vis (defScope stg) a
  G : ∀ cdv, fdg.code = cdv → GivesTo X Ng x (defScope stg) g cdv (defBody stg) a (X.env.qual ++ "<lambda>") (TTm L X.K hs v0)
  db : (x == ("__debug__" : Str)) = false
  d : (a == ("__debug__" : Str)) = false
  cd : (a == ("__classdict__" : Str)) = false
section
variable {L : Lw} {X : Cx} {Wx : WX} {k : Nat} {c : Fn}
end
end Gm
namespace Gm
open PySem PySem.Spec PyProof.Rows L2 LamX
structure PEI (X : Cx) (pins0 : List (Addr × Obj)) (σ0 : L2.St) (Y : Cx) (own : List Nat) (e : Expr) (t : TE) : Prop where
  run : ∀ (pins : List (Addr × Obj)) (s : Shared) (σ : L2.St) (H : Hp) (Q : VK), Inv Y pins σ H s → (∀ pins' σ' H' s', Inv Y pins' σ' H' s' → Inv X pins0 σ0 H' s') → wipe σ own = wipe σ0 own → t σ H Q → wpAny (model X.prog X.w) X.A (eval e Y.env) (EP Y pins σ Q) Y.xe s
structure PTI (X : Cx) (pins0 : List (Addr × Obj)) (σ0 : L2.St) (Y : Cx) (own : List Nat) (ifs : List Expr) (t : TT) : Prop where
  run : ∀ (pins : List (Addr × Obj)) (s : Shared) (σ : L2.St) (H : Hp) (Q : Bool → Hp → Prop), Inv Y pins σ H s → (∀ pins' σ' H' s', Inv Y pins' σ' H' s' → Inv X pins0 σ0 H' s') → wipe σ own = wipe σ0 own → t σ H Q →
    wpAny (model X.prog X.w) X.A (forIn ifs true fun c r => if r = true then do let ok ← isTrue c Y.env (eval c Y.env); pure (ForInStep.yield ok) else pure (ForInStep.yield r)) (TP Y pins σ Q) Y.xe s
section
variable {X : Cx}
end
section
variable {L : Lw} {X : Cx} {Wx : WX} {k : Nat} {c : Fn}
structure REI (L : Lw) (X : Cx) (pins0 : List (Addr × Obj)) (σ0 : L2.St) (Y : Cx) (own : List Nat) (e : Expr) (f : Fe) : Prop where
  pe : PEI X pins0 σ0 Y own e (teOf L X.K W0 f)
structure RTI (L : Lw) (X : Cx) (pins0 : List (Addr × Obj)) (σ0 : L2.St) (Y : Cx) (own : List Nat) (ifs : List Expr) (f : Ft) : Prop where
  pt : PTI X pins0 σ0 Y own ifs (ttOf L X.K W0 f)
end
end Gm
namespace Gm
open PySem PySem.Spec PyProof.Rows L2 LamX
section
variable {P : Program} {w : World} {K : PySem.W.Frag} {mg : Str → Option Value} {base : Heap} {L : Lw}
end
def spI3 (D : Addr) (f1 f2 f3 : Str) : Sp := fun vs H Q E => ∃ a y1 y2 y3, vs = [.ref a, y1, y2, y3] ∧ H a = some (exo a D none) ∧ ∀ dx, H dx = none → dx ≠ a →
  Q .non (upd (upd (upd (upd H dx (exd dx [(f1, y1)])) a (exo a D (some dx))) dx (exd dx [(f2, y2), (f1, y1)])) dx (exd dx [(f3, y3), (f2, y2), (f1, y1)]))
structure Xc3 (P : Program) (w : World) (K : PySem.W.Frag) (mg : Str → Option Value) (base : Heap) (k : Nat) (L : Lw) (i : Nat) (x : Str) (g1 g2 g3 : Nat) (fI : Addr) (fd : FuncData) (ps : List Str) : Prop where
  lay : L.lay i = [g3, g2, g1]
  T : OexC K (L.cad i)
  iC : PySem.W.findIn K (.ref (L.cad i)) "__init__" = some (some (.ref fI))
  tI : PySem.W.typeIn K (.ref fI) = some (.type "function")
  fn : FnOk P w K mg base C8.CX0 k fI fd ps (spI3 (L.cad i) (L.nm g1) (L.nm g2) (L.nm g3))
  bi : Binds K fd ps []
  m : mg x = some (.ref (L.cad i))
section
variable {L : Lw} {X : Cx} {Wx : WX} {k : Nat} {c : Fn} {x : Str} {e1 e2 e3 : Expr} {p pos pos2 : Pos}
end
end Gm
namespace Gm
open PySem PySem.Spec PyProof.Rows L2
section
variable {L : Lw} {X : Cx} {Wx : WX} {k : Nat} {c : Fn}
end
end Gm
namespace Gm
open PySem PySem.Spec PyProof.Rows L2 LamX
section
variable {L : Lw} {X : Cx} {Ng : List Str} {x a q : Str} {sg : Scope} {g : Addr} {cdg : Value} {hs : List Hc} {h₀ : ExceptHandler} {hds : List ExceptHandler} {p1 p2 pe pt : Pos}
end
section
variable {L : Lw} {X : Cx} {Wx : WX} {k : Nat} {c : Fn}
end
end Gm
namespace Gm
open PySem PySem.Spec PyProof.Rows L2
section
variable {L : Lw} {X : Cx} {Wx : WX} {k : Nat} {c : Fn} {p pos apos : Pos} {e o : Expr}
end
end Gm
namespace Gm
open PySem PySem.Spec PyProof.Rows L2
section
open PySem PySem.SeqAt
open MeetsSeq MeetsSeq2 MeetsSeq3 SeqRoads2 GQ
variable {prog : Program} {w : World} {A : Around} {R : Result → Shared → Prop}
end
section
open PySem PySem.Spec MeetsSeq SeqRoads2
variable {prog : Program} {w : World} {A : Around} {E : Value → Shared → Prop} {s : Shared}
end
section
variable {L : Lw} {X : Cx} {Wx : WX} {k : Nat} {c : Fn}
end
end Gm
namespace Gm
open PySem PySem.Spec PyProof.Rows L2 LamX
structure FnP (Ar : Around → Prop) (P : Program) (w : World) (K : PySem.W.Frag) (mg : Str → Option Value) (base : Heap) (CX : CXT) (f : Addr) (fd : FuncData) (ps : List Str) (sp : Sp) : Prop where
  run : ∀ (A : Around) (outer : List Env) (st : Shared) (H : Hp) (as : Args) (us : List Value) (xs : List V) (Q : VK) (E : XK), Ar A → Env0 P w K mg base A outer st H →
    BindsTo st fd as (ps.zip us) → Vals xs us → sp xs H Q E → codeAny (model P w) A (.call (.ref f) as) (CR CX outer P w H st Q E) st
structure Bare (k : Nat) (A : Around) : Prop where
  room : Room k A
  gd : A.guards = some []
section
variable (K : PySem.W.Frag) (cs : List (Addr × Addr)) (a : Addr) (ob : Obj) (xs : List V)
open Classical in
noncomputable def hpL : Hp := fun b => if b ∈ cs.map (·.2) then some (.tbl #[]) else if b = a ∧ K.lookup a = none then some (.frz ob (.lst xs)) else none
theorem hpL_at (b : Addr) : (b ∈ cs.map (·.2) ∧ hpL K cs a ob xs b = some (.tbl #[])) ∨ (b ∉ cs.map (·.2) ∧ b = a ∧ K.lookup a = none ∧ hpL K cs a ob xs b = some (.frz ob (.lst xs))) ∨ (b ∉ cs.map (·.2) ∧ hpL K cs a ob xs b = none) := by
  unfold hpL
  by_cases h1 : b ∈ cs.map (·.2)
  · exact .inl ⟨h1, if_pos h1⟩
  · by_cases h2 : b = a ∧ K.lookup a = none
    · exact .inr (.inl ⟨h1, h2.1, h2.2, by rw [if_neg h1, if_pos h2]⟩)
    · exact .inr (.inr ⟨h1, by rw [if_neg h1, if_neg h2]⟩)
end
abbrev lObj (us : List Value) : Obj := { cls := .type "list", data := .seq us.toArray }
abbrev tObj : Obj := { cls := .none, data := .fields #[] }
section
variable {P : Program} {w : World} {K : PySem.W.Frag} {mg mb : Str → Option Value} {CX : CXT} {Ar : Around → Prop} {f a : Addr} {cs : List (Addr × Addr)} {fd : FuncData} {x : Str} {sp : Sp} {s : Shared} {us : List Value} {ns : List Int}
structure LawSt (K : PySem.W.Frag) (mg mb : Str → Option Value) (cs : List (Addr × Addr)) (a : Addr) (us : List Value) (s : Shared) : Prop where
  kin : K.In s.heap
  main : s.heap.Ns mainGlobals mg
  blt : s.heap.Ns builtinsNs mb
  boot : ∀ y : Str, y ≠ "__name__" → mb y = bootBuiltins y
  lim : s.heap.NoLimit
  gens : s.gens = #[]
  tab : ∀ q ∈ cs, s.heap.get? q.2 = some tObj
  out : ∀ q ∈ cs, K.lookup q.2 = none
  code : ∀ q ∈ cs, PySem.W.CodeHd s.heap q.1 q.2
  modl : ∃ (m : Addr) (o : Obj), mg "__builtins__" = some (.ref m) ∧ m ≠ builtinsNs ∧ s.heap.get? m = some o ∧ o.cls = .type "module" ∧ o.dict = some builtinsNs ∧ o.data = .plain
  scr : s.heap.get? a = some (lObj us)
section
variable (Z : LawSt K mg mb cs a us s) (xs : List V)
include Z
theorem LawSt.tabs {b : Addr} (h : b ∈ cs.map (·.2)) : s.heap.get? b = some tObj := by
  obtain ⟨q, hq, e⟩ := List.mem_map.mp h
  rw [← e]; exact Z.tab q hq
theorem LawSt.off {b : Addr} {o : Obj} (e : s.heap.get? b = some o) (h1 : ∀ vs n, o.data ≠ .seq vs n) (h2 : o.data ≠ .fields #[]) : hpL K cs a (lObj us) xs b = none := by
  rcases hpL_at K cs a (lObj us) xs b with ⟨h, _⟩ | ⟨_, h, _⟩ | ⟨_, h⟩
  · rw [Z.tabs h] at e
    cases e
    exact (h2 rfl).elim
  · rw [h, Z.scr] at e
    cases e
    exact (h1 _ _ rfl).elim
  · exact h
theorem LawSt.offD {b : Addr} {o : Obj} {es : Array DictEntry} {n : Nat} (e : s.heap.get? b = some o) (d : o.data = .dict es n) : hpL K cs a (lObj us) xs b = none :=
  Z.off xs e (fun _ _ z => by rw [d] at z; cases z) fun z => by rw [d] at z; cases z
theorem LawSt.nsp {b : Addr} {m : Str → Option Value} (h : s.heap.Ns b m) : (hidT s.heap (hpL K cs a (lObj us) xs)).Ns b m := by
  obtain ⟨o, es, n, e, d, r⟩ := h
  exact ⟨o, es, n, hidT_get e (Z.offD xs e d), d, r⟩
theorem LawSt.kinL : K.In (hidT s.heap (hpL K cs a (lObj us) xs)) := fun b o e => by
  refine hidT_get (Z.kin b o e) ?_
  rcases hpL_at K cs a (lObj us) xs b with ⟨h, _⟩ | ⟨_, h, h', _⟩ | ⟨_, h⟩
  · obtain ⟨q, hq, eq⟩ := List.mem_map.mp h
    rw [← eq, Z.out q hq] at e
    cases e
  · rw [h, h'] at e
    cases e
  · exact h
theorem LawSt.mod : L2.Mod K mg (hidT s.heap (hpL K cs a (lObj us) xs)) := by
  obtain ⟨m, h1, h2⟩ := Z.lim
  exact ⟨Z.kinL xs, Z.nsp xs Z.main, ⟨mb, Z.nsp xs Z.blt, Z.boot⟩, ⟨m, Z.nsp xs h1, h2⟩⟩
theorem LawSt.env0 (hok : HOk P w (hpL K cs a (lObj us) xs) s.heap) : Env0 P w K mg (hidT s.heap (hpL K cs a (lObj us) xs)) callerA [] s (hpL K cs a (lObj us) xs) :=
  ⟨rfl, Z.mod xs, fun b o e => of_hidT e, Nat.le_of_eq (hidT_size _ _), trivial, (fun b hb => by cases hb), hok, .of_eq Z.gens⟩
theorem LawSt.hok (hv : Vals xs us) (hz : xs.length ≤ sizeLine) : HOk P w (hpL K cs a (lObj us) xs) s.heap := fun b o e => by
  rcases hpL_at K cs a (lObj us) xs b with ⟨h, h'⟩ | ⟨_, h, _, h'⟩ | ⟨_, h'⟩
  · rw [h'] at e
    cases e
    exact Z.tabs h
  · rw [h'] at e
    cases e
    rw [h]
    exact ⟨Z.scr, hz, us, _, hv, Z.scr⟩
  · rw [h'] at e
    cases e
theorem LawSt.old {s' : Shared} {H' : Hp} (un : Un (frs []) [] (hpL K cs a (lObj us) xs) H' s.heap s'.heap) (hok' : HOk P w H' s'.heap) : OldK s.heap s'.heap := by
  have same : ∀ b o, b ∉ cs.map (·.2) → s.heap.get? b = some o → s'.heap.get? b = some o := fun b o hb e => by
    rcases hpL_at K cs a (lObj us) xs b with ⟨h, _⟩ | ⟨_, h, _, h'⟩ | ⟨_, h'⟩
    · exact (hb h).elim
    · rw [h, Z.scr] at e
      cases e
      rw [h] at h' ⊢
      exact (hok' a _ (un.frzs a _ _ h')).1
    · exact un.keep b o e h' (fun z => by cases z) fun z => by cases z
  have more : ∀ b, b ∈ cs.map (·.2) → ∃ q ∈ cs, q.2 = b ∧ ∃ vs : Array Value, s'.heap.get? b = some { cls := .none, data := .fields vs } := fun b hb => by
    obtain ⟨q, hq, e⟩ := List.mem_map.mp hb
    rcases hpL_at K cs a (lObj us) xs b with ⟨_, h⟩ | ⟨h, _⟩ | ⟨h, _⟩
    · obtain ⟨vs, z⟩ := un.tbls b #[] h
      exact ⟨q, hq, e, _, hok' b _ z⟩
    · exact (h hb).elim
    · exact (h hb).elim
  refine ⟨fun b o e => ?_, fun b o e => ?_⟩
  · by_cases hb : b ∈ cs.map (·.2)
    · obtain ⟨q, hq, eq, vs, e'⟩ := more b hb
      have e2 := e
      rw [Z.tabs hb] at e2
      cases e2
      have ct := (Z.code q hq).tab (Z.tab q hq)
      rw [eq] at ct
      exact .inr (.inl ⟨ct.isCodeTable, rfl, #[], vs, rfl, by rw [Array.empty_append]; exact e'⟩)
    · exact .inl (same b o hb e)
  · by_cases hb : b ∈ cs.map (·.2)
    · obtain ⟨_, _, _, _, e'⟩ := more b hb
      exact ⟨_, e'⟩
    · exact ⟨o, same b o hb e⟩
end
end
end Gm
namespace Gm
open PySem PySem.Spec PyProof.Rows L2
mutual
def shD : D → Option PyData
  | .non => some .none
  | .bl b => some (.bool b)
  | .int i => some (.int i)
  | .str s => some (.str s)
  | .tup ds => (shDs ds).map .tuple
  | _ => none
def shDs : List D → Option (List PyData)
  | [] => some []
  | d :: ds => match shD d, shDs ds with
    | some p, some ps => some (p :: ps)
    | _, _ => none
end
section
variable {K : PySem.W.Frag} {L : Lw} {W : Wd} {X : Cx} {pins : List (Addr × Obj)} {σ : L2.St} {H : Hp} {s : Shared}
mutual
theorem reads_of (I : Inv X pins σ H s) (e0 : ∀ a o, W.fz a = some o → H a = some o) : ∀ {d : D} {p : PyData} {x : V} {u : Value}, shD d = some p → Rl X.K L W d x → RelV x u → ∃ as, Reads s.heap u p as
  | .non, p, x, u, e, R, r => by
    cases (show some PyData.none = some p from by rw [← e]; unfold shD; rfl)
    rw [Rl.non.mp R] at r
    obtain rfl : u = Value.none := r
    exact ⟨_, .none⟩
  | .bl b, p, x, u, e, R, r => by
    cases (show some (PyData.bool b) = some p from by rw [← e]; unfold shD; rfl)
    rw [Rl.bl.mp R] at r
    obtain rfl : u = Value.bool b := r
    exact ⟨_, .bool b⟩
  | .int b, p, x, u, e, R, r => by
    cases (show some (PyData.int b) = some p from by rw [← e]; unfold shD; rfl)
    rw [Rl.int.mp R] at r
    obtain ⟨t, rfl⟩ : ∃ t, u = Value.int b t := r
    exact ⟨_, .int b t⟩
  | .str b, p, x, u, e, R, r => by
    cases (show some (PyData.str b) = some p from by rw [← e]; unfold shD; rfl)
    rw [Rl.str.mp R] at r
    obtain ⟨t, rfl⟩ : ∃ t, u = Value.str b t := r
    exact ⟨_, .str b t⟩
  | .tup ds, p, x, u, e, R, r => by
    unfold shD at e
    obtain ⟨ps, h1, rfl⟩ := Option.map_eq_some_iff.mp e
    obtain ⟨a, vs, rfl, h2, h3⟩ := Rl.tup.mp R
    obtain rfl : u = Value.ref a := r
    obtain ⟨its, hv, ⟨o, g1, g2, n, g3⟩, _⟩ := I.tuple (SqT_mono e0 h2)
    obtain ⟨as, h4⟩ := readss_of I e0 h1 h3 hv
    exact ⟨_, .tuple g1 g2 g3 (by simpa using h4)⟩
  | .obj c ds, p, x, u, e, R, r => by unfold shD at e; cases e
  | .ref n, p, x, u, e, R, r => by unfold shD at e; cases e
  | .fn n, p, x, u, e, R, r => by unfold shD at e; cases e
theorem readss_of (I : Inv X pins σ H s) (e0 : ∀ a o, W.fz a = some o → H a = some o) : ∀ {ds : List D} {ps : List PyData} {xs : List V} {us : List Value}, shDs ds = some ps → Rls X.K L W ds xs → Vals xs us → ∃ as, ReadsAll s.heap us ps as
  | [], ps, xs, us, e, R, r => by
    unfold shDs at e
    cases e
    rw [Rls.nil.mp R] at r
    cases r
    exact ⟨_, .nil⟩
  | d :: ds, ps, xs, us, e, R, r => by
    unfold shDs at e
    cases h1 : shD d with
    | none => rw [h1] at e; cases e
    | some p =>
      cases h2 : shDs ds with
      | none => rw [h1, h2] at e; cases e
      | some ps' =>
        rw [h1, h2] at e
        cases e
        obtain ⟨v, vs, rfl, R1, R2⟩ := Rls.cons.mp R
        cases r with
        | cons r1 r2 =>
          obtain ⟨as, q1⟩ := reads_of I e0 h1 R1 r1
          obtain ⟨bs, q2⟩ := readss_of I e0 h2 R2 r2
          exact ⟨_, .cons q1 q2⟩
end
end
section
variable {L : Lw} {X : Cx} {Wx : WX} {k : Nat} {c : Fn}
end
end Gm
namespace Gm
open PySem PySem.Spec PyProof.Rows L2
section
variable {P : Program} {w : World} {K : PySem.W.Frag} {mg : Str → Option Value} {base : Heap} {L : Lw}
end
section
variable {L : Lw} {X : Cx} {Wx : WX} {k : Nat} {c : Fn} {x : Str} {e : Expr} {es : List Expr} {r : Fa} {p pos : Pos}
end
end Gm
namespace Gm
open PySem PySem.Spec PyProof.Rows L2
section
variable {P : Program} {w : World} {K : PySem.W.Frag} {mg : Str → Option Value} {base : Heap} {L : Lw} {k n : Nat} {f : Addr} {fd : FuncData} {ps : List Str} {Ar : Around → Prop}
end
end Gm
namespace Gm
open PySem PySem.Spec PyProof.Rows L2
section
variable {X : Cx}
end
section
variable {L : Lw} {X : Cx} {Wx : WX} {k : Nat} {c : Fn} {o e : Expr} {apos pos : Pos}
end
end Gm
namespace Gm
open PySem PySem.Spec PyProof.Rows L2
section
variable {L : Lw} {X : Cx} {Wx : WX} {k : Nat} {c : Fn}
end
end Gm
namespace Gm
open PySem PySem.Spec PyProof.Rows L2 LamX
def TTt (L : Lw) (K : PySem.W.Frag) (hs : List Hc) (vs : List V) : (XK → Hp → VK → Prop) → Hp → VK → Prop := fun tl H Q => ∀ p, H p = none → tl (EX L K hs Q) (upd H p (.tup vs)) (fun _ H' => Q (.ref p) H')
section
variable {L : Lw} {X : Cx} {Ng : List Str} {x a q : Str} {sg : Scope} {g : Addr} {cdg : Value} {hs : List Hc} {h₀ : ExceptHandler} {hds : List ExceptHandler} {p1 p2 pe pt : Pos}
end
section
variable {L : Lw} {X : Cx} {Wx : WX} {k : Nat} {c : Fn}
end
structure TryT (L : Lw) (X : Cx) (hs : List Hc) (ds0 : List D) (vs0 : List V) (x a : Str) (g : Addr) (stg : Stmt) (fdg : FuncData) (Ng : List Str) : Prop where
  d0 : ∀ W, Rls X.K L W ds0 vs0
  m : X.mg x = some (.ref g)
  k : PySem.W.keepIn X.K (.ref g) = true
  F : FunG X.K x x stg g fdg
  b : L2.Binds X.K fdg [a] []
  S : FnScope Ng [a] (defScope stg)
  N : Ng[0]? = some a
  v : Vis (defScope stg) a
  G : ∀ cdv, fdg.code = cdv → GivesTo X Ng x (defScope stg) g cdv (defBody stg) a (X.env.qual ++ "<lambda>") (TTt L X.K hs vs0)
  db : (x == ("__debug__" : Str)) = false
  d : (a == ("__debug__" : Str)) = false
  cd : (a == ("__classdict__" : Str)) = false
section
variable {L : Lw} {X : Cx} {Wx : WX} {k : Nat} {c : Fn}
end
section
variable {L : Lw} {X : Cx} {Wx : WX} {k : Nat} {c : Fn}
end
end Gm
namespace Gm
open PySem PySem.Spec PyProof.Rows L2 LamX
section
variable {L : Lw} {X : Cx} {Wx : WX} {k : Nat} {c : Fn}
end
end Gm
namespace Gm
open PySem PySem.Spec PyProof.Rows L2
section
variable {L : Lw} {X : Cx} {Wx : WX} {k : Nat} {c : Fn}
end
end Gm
namespace Gm
open PySem PySem.Spec PyProof.Rows L2
namespace IC
open PySem.W PySem.Calls
end IC
section
variable {L : Lw} {X : Cx} {Wx : WX} {k : Nat} {c : Fn}
end
end Gm
namespace G08
open PySem PySem.Spec PyProof.Rows L2 Gm
def top (i : Nat) : Stmt := PySem.Challenge.pw_overfloors_k08_ratios.main.body.getD i (.Pass ⟨0, 0, 0, 0⟩)
abbrev s_0 : Stmt := top 4
abbrev s_1 : Stmt := top 5
abbrev s_2 : Stmt := top 6
abbrev s_3 : Stmt := top 8
abbrev s_4 : Stmt := top 10
abbrev s_5 : Stmt := top 11
abbrev s_6 : Stmt := top 12
abbrev s_7 : Stmt := top 13
abbrev s_8 : Stmt := top 14
abbrev s_9 : Stmt := top 15
abbrev s_10 : Stmt := top 16
abbrev s_11 : Stmt := top 17
abbrev s_12 : Stmt := top 18
abbrev s_13 : Stmt := top 19
abbrev s_14 : Stmt := top 20
abbrev s_15 : Stmt := top 21
abbrev s_16 : Stmt := top 22
abbrev s_17 : Stmt := top 23
abbrev s_18 : Stmt := top 24
abbrev s_19 : Stmt := top 25
abbrev s_20 : Stmt := top 26
abbrev s_21 : Stmt := top 27
abbrev s_22 : Stmt := top 28
abbrev s_23 : Stmt := top 29
abbrev s_24 : Stmt := top 30
abbrev s_25 : Stmt := top 31
abbrev s_26 : Stmt := inClass (top 7) 0
abbrev s_27 : Stmt := inClass (top 7) 1
abbrev s_28 : Stmt := inClass (top 7) 2
abbrev s_29 : Stmt := inClass (top 7) 3
abbrev s_30 : Stmt := inClass (top 7) 4
abbrev s_31 : Stmt := inClass (top 7) 5
abbrev s_32 : Stmt := inClass (top 7) 6
abbrev s_33 : Stmt := inClass (top 7) 7
abbrev s_34 : Stmt := inClass (top 7) 8
abbrev s_35 : Stmt := inClass (top 7) 9
abbrev s_36 : Stmt := inClass (top 7) 10
abbrev s_37 : Stmt := inClass (top 7) 11
abbrev s_38 : Stmt := inClass (top 7) 12
abbrev s_39 : Stmt := inClass (top 7) 13
abbrev s_40 : Stmt := inClass (top 7) 14
abbrev s_41 : Stmt := inClass (top 7) 15
abbrev s_42 : Stmt := inClass (top 7) 16
abbrev s_43 : Stmt := inClass (top 7) 17
abbrev s_44 : Stmt := inClass (top 7) 18
abbrev s_45 : Stmt := inClass (top 7) 19
abbrev s_46 : Stmt := inClass (top 7) 20
abbrev s_47 : Stmt := inClass (top 7) 21
abbrev s_48 : Stmt := inClass (top 7) 22
abbrev s_49 : Stmt := inClass (top 7) 23
abbrev s_50 : Stmt := inClass (top 7) 24
abbrev s_51 : Stmt := inClass (top 7) 25
def d_0 : He.DefD := ⟨("is_number", none), "is_number", "is_number", defArgs s_0, defBody s_0, defScope s_0, [], []⟩
def d_1 : He.DefD := ⟨("gcd_of", none), "gcd_of", "gcd_of", defArgs s_1, defBody s_1, defScope s_1, [], []⟩
def d_2 : He.DefD := ⟨("raised", none), "raised", "raised", defArgs s_2, defBody s_2, defScope s_2, [], []⟩
def d_3 : He.DefD := ⟨("ratio_of", none), "ratio_of", "ratio_of", defArgs s_3, defBody s_3, defScope s_3, [], []⟩
def d_4 : He.DefD := ⟨("_law_begin", none), "_law_begin", "_law_begin", defArgs s_4, defBody s_4, defScope s_4, [], []⟩
def d_5 : He.DefD := ⟨("_law_draw", none), "_law_draw", "_law_draw", defArgs s_5, defBody s_5, defScope s_5, [], []⟩
def d_6 : He.DefD := ⟨("_law_pick", none), "_law_pick", "_law_pick", defArgs s_6, defBody s_6, defScope s_6, [], []⟩
def d_7 : He.DefD := ⟨("_law_ten", none), "_law_ten", "_law_ten", defArgs s_7, defBody s_7, defScope s_7, [], []⟩
def d_8 : He.DefD := ⟨("_law_long", none), "_law_long", "_law_long", defArgs s_8, defBody s_8, defScope s_8, [], []⟩
def d_9 : He.DefD := ⟨("_law_size", none), "_law_size", "_law_size", defArgs s_9, defBody s_9, defScope s_9, [], []⟩
def d_10 : He.DefD := ⟨("_law_number", none), "_law_number", "_law_number", defArgs s_10, defBody s_10, defScope s_10, [], []⟩
def d_11 : He.DefD := ⟨("_law_gcd", none), "_law_gcd", "_law_gcd", defArgs s_11, defBody s_11, defScope s_11, [], []⟩
def d_12 : He.DefD := ⟨("_law_truth", none), "_law_truth", "_law_truth", defArgs s_12, defBody s_12, defScope s_12, [], []⟩
def d_13 : He.DefD := ⟨("_law_power", none), "_law_power", "_law_power", defArgs s_13, defBody s_13, defScope s_13, [], []⟩
def d_14 : He.DefD := ⟨("_law_whole_is", none), "_law_whole_is", "_law_whole_is", defArgs s_14, defBody s_14, defScope s_14, [], []⟩
def d_15 : He.DefD := ⟨("_law_ratio_is", none), "_law_ratio_is", "_law_ratio_is", defArgs s_15, defBody s_15, defScope s_15, [], []⟩
def d_16 : He.DefD := ⟨("_law_fraction", none), "_law_fraction", "_law_fraction", defArgs s_16, defBody s_16, defScope s_16, [], []⟩
def d_17 : He.DefD := ⟨("_law_refused", none), "_law_refused", "_law_refused", defArgs s_17, defBody s_17, defScope s_17, [], []⟩
def d_18 : He.DefD := ⟨("_law_sums_right", none), "_law_sums_right", "_law_sums_right", defArgs s_18, defBody s_18, defScope s_18, [], []⟩
def d_19 : He.DefD := ⟨("_law_mixed_right", none), "_law_mixed_right", "_law_mixed_right", defArgs s_19, defBody s_19, defScope s_19, [], []⟩
def d_20 : He.DefD := ⟨("_law_order_right", none), "_law_order_right", "_law_order_right", defArgs s_20, defBody s_20, defScope s_20, [], []⟩
def d_21 : He.DefD := ⟨("_law_floors_right", none), "_law_floors_right", "_law_floors_right", defArgs s_21, defBody s_21, defScope s_21, [], []⟩
def d_22 : He.DefD := ⟨("_law_shown_right", none), "_law_shown_right", "_law_shown_right", defArgs s_22, defBody s_22, defScope s_22, [], []⟩
def d_23 : He.DefD := ⟨("_law_few", none), "_law_few", "_law_few", defArgs s_23, defBody s_23, defScope s_23, [], []⟩
def d_24 : He.DefD := ⟨("_law_refusals_right", none), "_law_refusals_right", "_law_refusals_right", defArgs s_24, defBody s_24, defScope s_24, [], []⟩
def d_25 : He.DefD := ⟨("law", none), "law", "law", defArgs s_25, defBody s_25, defScope s_25, [], []⟩
def d_26 : He.DefD := ⟨("Ratio", some "__init__"), "__init__", "Ratio.__init__", defArgs s_26, defBody s_26, defScope s_26, [.int 1], []⟩
def d_27 : He.DefD := ⟨("Ratio", some "__eq__"), "__eq__", "Ratio.__eq__", defArgs s_27, defBody s_27, defScope s_27, [], []⟩
def d_28 : He.DefD := ⟨("Ratio", some "__lt__"), "__lt__", "Ratio.__lt__", defArgs s_28, defBody s_28, defScope s_28, [], []⟩
def d_29 : He.DefD := ⟨("Ratio", some "__le__"), "__le__", "Ratio.__le__", defArgs s_29, defBody s_29, defScope s_29, [], []⟩
def d_30 : He.DefD := ⟨("Ratio", some "__gt__"), "__gt__", "Ratio.__gt__", defArgs s_30, defBody s_30, defScope s_30, [], []⟩
def d_31 : He.DefD := ⟨("Ratio", some "__ge__"), "__ge__", "Ratio.__ge__", defArgs s_31, defBody s_31, defScope s_31, [], []⟩
def d_32 : He.DefD := ⟨("Ratio", some "__add__"), "__add__", "Ratio.__add__", defArgs s_32, defBody s_32, defScope s_32, [], []⟩
def d_33 : He.DefD := ⟨("Ratio", some "__radd__"), "__radd__", "Ratio.__radd__", defArgs s_33, defBody s_33, defScope s_33, [], []⟩
def d_34 : He.DefD := ⟨("Ratio", some "__sub__"), "__sub__", "Ratio.__sub__", defArgs s_34, defBody s_34, defScope s_34, [], []⟩
def d_35 : He.DefD := ⟨("Ratio", some "__rsub__"), "__rsub__", "Ratio.__rsub__", defArgs s_35, defBody s_35, defScope s_35, [], []⟩
def d_36 : He.DefD := ⟨("Ratio", some "__mul__"), "__mul__", "Ratio.__mul__", defArgs s_36, defBody s_36, defScope s_36, [], []⟩
def d_37 : He.DefD := ⟨("Ratio", some "__rmul__"), "__rmul__", "Ratio.__rmul__", defArgs s_37, defBody s_37, defScope s_37, [], []⟩
def d_38 : He.DefD := ⟨("Ratio", some "__floordiv__"), "__floordiv__", "Ratio.__floordiv__", defArgs s_38, defBody s_38, defScope s_38, [], []⟩
def d_39 : He.DefD := ⟨("Ratio", some "__rfloordiv__"), "__rfloordiv__", "Ratio.__rfloordiv__", defArgs s_39, defBody s_39, defScope s_39, [], []⟩
def d_40 : He.DefD := ⟨("Ratio", some "__mod__"), "__mod__", "Ratio.__mod__", defArgs s_40, defBody s_40, defScope s_40, [], []⟩
def d_41 : He.DefD := ⟨("Ratio", some "__rmod__"), "__rmod__", "Ratio.__rmod__", defArgs s_41, defBody s_41, defScope s_41, [], []⟩
def d_42 : He.DefD := ⟨("Ratio", some "__pow__"), "__pow__", "Ratio.__pow__", defArgs s_42, defBody s_42, defScope s_42, [], []⟩
def d_43 : He.DefD := ⟨("Ratio", some "__neg__"), "__neg__", "Ratio.__neg__", defArgs s_43, defBody s_43, defScope s_43, [], []⟩
def d_44 : He.DefD := ⟨("Ratio", some "__abs__"), "__abs__", "Ratio.__abs__", defArgs s_44, defBody s_44, defScope s_44, [], []⟩
def d_45 : He.DefD := ⟨("Ratio", some "__bool__"), "__bool__", "Ratio.__bool__", defArgs s_45, defBody s_45, defScope s_45, [], []⟩
def d_46 : He.DefD := ⟨("Ratio", some "__str__"), "__str__", "Ratio.__str__", defArgs s_46, defBody s_46, defScope s_46, [], []⟩
def d_47 : He.DefD := ⟨("Ratio", some "over"), "over", "Ratio.over", defArgs s_47, defBody s_47, defScope s_47, [], []⟩
def d_48 : He.DefD := ⟨("Ratio", some "floor"), "floor", "Ratio.floor", defArgs s_48, defBody s_48, defScope s_48, [], []⟩
def d_49 : He.DefD := ⟨("Ratio", some "ceiling"), "ceiling", "Ratio.ceiling", defArgs s_49, defBody s_49, defScope s_49, [], []⟩
def d_50 : He.DefD := ⟨("Ratio", some "whole"), "whole", "Ratio.whole", defArgs s_50, defBody s_50, defScope s_50, [], []⟩
def d_51 : He.DefD := ⟨("Ratio", some "sign"), "sign", "Ratio.sign", defArgs s_51, defBody s_51, defScope s_51, [], []⟩
def cls : List Cl := [⟨"Ratio", [40, 41], [40, 41], [(37, 26), (21, 27), (22, 28), (23, 29), (24, 30), (25, 31), (1, 32), (11, 33), (2, 34), (12, 35), (3, 36), (13, 37), (4, 38), (14, 39), (5, 40), (15, 41), (6, 42), (31, 43), (33, 44), (34, 45), (35, 46), (44, 47), (43, 48), (42, 49), (46, 50), (45, 51)], []⟩]
def defs : List Df := [⟨d_0, ["value"]⟩, ⟨d_1, ["first", "second"]⟩, ⟨d_2, ["number", "times"]⟩, ⟨d_3, ["number"]⟩, ⟨d_4, ["_law_script"]⟩, ⟨d_5, ["_law_tape", "_law_limit"]⟩, ⟨d_6, ["_law_tape", "_law_some"]⟩, ⟨d_7, ["_law_figures"]⟩, ⟨d_8, ["_law_tape", "_law_figures"]⟩, ⟨d_9, ["_law_tape", "_law_figures"]⟩, ⟨d_10, ["_law_tape", "_law_figures"]⟩, ⟨d_11, ["_law_one", "_law_other"]⟩, ⟨d_12, ["_law_value", "_law_due"]⟩, ⟨d_13, ["_law_number_here", "_law_times"]⟩, ⟨d_14, ["_law_value", "_law_due"]⟩, ⟨d_15, ["_law_value", "_law_top", "_law_bottom"]⟩, ⟨d_16, ["_law_tape"]⟩, ⟨d_17, ["_law_call"]⟩, ⟨d_18, ["_law_one", "_law_other", "_law_a", "_law_b"]⟩, ⟨d_19, ["_law_one", "_law_number_here", "_law_a"]⟩, ⟨d_20, ["_law_one", "_law_other", "_law_a", "_law_b"]⟩, ⟨d_21, ["_law_one", "_law_other", "_law_number_here", "_law_a", "_law_b"]⟩, ⟨d_22, ["_law_one", "_law_a"]⟩, ⟨d_23, ["_law_one"]⟩, ⟨d_24, ["_law_tape", "_law_one", "_law_a"]⟩, ⟨d_25, ["_law_script"]⟩, ⟨d_26, ["self", "top", "bottom"]⟩, ⟨d_27, ["self", "other"]⟩, ⟨d_28, ["self", "other"]⟩, ⟨d_29, ["self", "other"]⟩, ⟨d_30, ["self", "other"]⟩, ⟨d_31, ["self", "other"]⟩, ⟨d_32, ["self", "other"]⟩, ⟨d_33, ["self", "other"]⟩, ⟨d_34, ["self", "other"]⟩, ⟨d_35, ["self", "other"]⟩, ⟨d_36, ["self", "other"]⟩, ⟨d_37, ["self", "other"]⟩, ⟨d_38, ["self", "other"]⟩, ⟨d_39, ["self", "other"]⟩, ⟨d_40, ["self", "other"]⟩, ⟨d_41, ["self", "other"]⟩, ⟨d_42, ["self", "other"]⟩, ⟨d_43, ["self"]⟩, ⟨d_44, ["self"]⟩, ⟨d_45, ["self"]⟩, ⟨d_46, ["self"]⟩, ⟨d_47, ["self", "number"]⟩, ⟨d_48, ["self"]⟩, ⟨d_49, ["self"]⟩, ⟨d_50, ["self"]⟩, ⟨d_51, ["self"]⟩]
def nms : List Str := ["top", "bottom", "ceiling", "floor", "over", "sign", "whole", "value"]
def nip : List (Nat × Nat) := []
def tb : Tb := { cls := cls, defs := defs, nms := nms, ni := nip, xc := [⟨"BadNumber", [47]⟩], lam := [(d_24.at_, (d_24.qual ++ ".<locals>.") ++ "<lambda>")] }
abbrev T : Ls := tb.ls
end G08
namespace G08
open PySem PySem.Spec PyProof.Rows L2 Gm
def fa : List He.Fa := [.glo "Ratio", .glo "is_number", .glo "_law_draw", .glo "_law_ten", .glo "_law_long", .glo "_law_size", .glo "_law_whole_is", .glo "_law_gcd", .glo "_law_number", .glo "_law_ratio_is", .glo "_law_truth", .glo "_law_few", .glo "_law_power", .glo "ratio_of", .glo "_law_pick", .glo "_law_refused", .glo "_law_begin", .glo "_law_fraction", .glo "_law_sums_right", .glo "_law_mixed_right", .glo "_law_order_right", .glo "_law_floors_right", .glo "_law_shown_right", .glo "_law_refusals_right", .glo "gcd_of", .glo "raised", .free "isinstance", .free "int", .free "bool", .free "abs", .free "list", .free "len", .free "range", .free "max", .free "str", .free "repr", .free "ValueError", .glo "BadNumber", .free "super", .glo "law"]
def fn : List He.DefD := [d_0, d_1, d_2, d_3, d_4, d_5, d_6, d_7, d_8, d_9, d_10, d_11, d_12, d_13, d_14, d_15, d_16, d_17, d_18, d_19, d_20, d_21, d_22, d_23, d_24, d_25, d_26, d_27, d_28, d_29, d_30, d_31, d_32, d_33, d_34, d_35, d_36, d_37, d_38, d_39, d_40, d_41, d_42, d_43, d_44, d_45, d_46, d_47, d_48, d_49, d_50, d_51]
def file0 : Str := PySem.Challenge.pw_overfloors_k08_ratios.main.file
def ex_0 (K : PySem.W.Frag) : Bool := supB file0 K "BadNumber"
def ex_1 (K : PySem.W.Frag) : Bool := (xfB K (tb.cad K 1) && He.eqO (PySem.W.findIn K (.ref (tb.cad K 1)) "value") (some none))
def ex_2 (K : PySem.W.Frag) : Bool := excCB K (tb.cad K 1)
def ex_3 (K : PySem.W.Frag) : Bool := decide (PySem.W.kitOne K (.ref (tb.cad K 1)) (.type "ValueError") = some true)
def ex_4 (K : PySem.W.Frag) : Bool := exmB tb K [(1, true)] (.ref (He.ga K "BadNumber"))
def ex_5 (K : PySem.W.Frag) : Bool := apartB tb K
def exX (K : PySem.W.Frag) : Bool := ex_0 K && ex_1 K && ex_2 K && ex_3 K && ex_4 K && ex_5 K
def ex (K : PySem.W.Frag) : Bool := okB tb K && exX K
def xs : List Str := ["BadNumber"]
def xv : List FxW := [valX "BadNumber.__init__" (inClass (top 2) 0)]
abbrev R : PySem.W.OpenRow := PySem.W.OpenLaw.row PySem.Challenge.rw_overfloors_k08_ratios
abbrev hk : PySem.W.Hook := hookY 6 fa fn ex xs xv tb
def ob (s : PySem.W.SharedT) : AlY := obsY 6 fa fn ex xs tb (HandSHeadRun.getT s)
def names0 : List PySem.Str := ["__name__", "FloorError", "BadNumber", "is_number", "gcd_of", "raised", "Ratio", "ratio_of", "_law_begin", "_law_draw", "_law_pick", "_law_ten", "_law_long", "_law_size", "_law_number", "_law_gcd", "_law_truth", "_law_power", "_law_whole_is", "_law_ratio_is", "_law_fraction", "_law_refused", "_law_sums_right", "_law_mixed_right", "_law_order_right", "_law_floors_right", "_law_shown_right", "_law_few", "_law_refusals_right"]
def names : List PySem.Str := names0
theorem run_top (w : World) : HandSHeadRun.RunEq R (PySem.W.view R.prog [31]) hk ob 20000 names w := by
  intro os
  kernel_rfl
end G08

set_option Elab.async false
set_option linter.all false
set_option autoImplicit false
set_option maxRecDepth 100000
set_option maxHeartbeats 0
namespace Gm
open PySem L2

section
variable (K : PySem.W.Frag) (L : Lw) (W : Wd)
end
section
variable {K : PySem.W.Frag} {L : Lw} {W W' : Wd}
theorem Rls.get : ∀ {ds : List D} {vs : List V} {i : Nat} {d : D}, Rls K L W ds vs → ds[i]? = some d → ∃ v, vs[i]? = some v ∧ Rl K L W d v
  | [], vs, i, d, h, e => by simp at e
  | x :: ds, vs, 0, d, h, e => by
    obtain ⟨v, vs', rfl, h1, _⟩ := Rls.cons.mp h
    simp at e; subst e
    exact ⟨v, by simp, h1⟩
  | x :: ds, vs, i + 1, d, h, e => by
    obtain ⟨v, vs', rfl, _, h2⟩ := Rls.cons.mp h
    obtain ⟨u, h3, h4⟩ := Rls.get (i := i) h2 (by simpa using e)
    exact ⟨u, by simpa using h3, h4⟩
theorem Rls.ints : ∀ (ns : List Int), Rls K L W (ns.map D.int) (ns.map V.int)
  | [] => Rls.nil.mpr rfl
  | n :: ns => Rls.mk (Rl.int.mpr rfl) (Rls.ints ns)
end

section
variable (K : PySem.W.Frag) (L : Lw) (W : Wd)
end
section
variable {K : PySem.W.Frag} {L : Lw} {W W' : Wd} {st : Store} {H H' : Hp}
theorem Sok.alloc_fz (s : Sok K L W st H) {p : Addr} {o : HO} (hp : H p = none) (ho : ∀ ps, o ≠ .tbl ps := by intro _ z; cases z) : W.le (W.freeze p o) ∧ Sok K L (W.freeze p o) st (upd H p o) := by
  have hf : W.fz p = none := by
    cases q : W.fz p with
    | none => rfl
    | some u => have := s.fz p u q; rw [hp] at this; cases this
  have e := Wd.le_freeze (o := o) hf
  refine ⟨e, fun a u q => ?_, s.len, fun n c a e1 e2 => (s.cell n c a e1 e2).mono e fun u q => upd_grow hp _ _ q, fun n c a e1 e2 e3 => ?_, s.inj, fun a u q => ?_, s.tb.ext (upd_grow hp)⟩
  · by_cases h : a = p
    · subst h
      have q' : upd W.fz a o a = some u := q
      rw [upd_same] at q' ⊢
      exact q'
    · have q' : upd W.fz p o a = some u := q
      rw [upd_ne h] at q' ⊢
      exact s.fz _ _ q'
  · obtain ⟨u, hu⟩ := (s.cell n c a e1 e3).there e2
    show upd W.fz p o a = none
    rw [upd_ne (ne_of_none hu hp)]
    exact s.ap n c a e1 e2 e3
  · by_cases h : a = p
    · subst h
      have q' : upd W.fz a o a = some u := q
      rw [upd_same] at q'
      cases q'
      exact ho
    · have q' : upd W.fz p o a = some u := q
      rw [upd_ne h] at q'
      exact s.nt _ _ q'
theorem Sok.write (s : Sok K L W st H) {n : Nat} {a : Addr} {o : HO} {c c' : Cell} (hn : st[n]? = some c) (hl : c.live = true) (ha : W.io[n]? = some a) (hc : CellR K L W (upd H a o) a c') : Sok K L W (st.set n c') (upd H a o) := by
  have hf := s.ap n c a hn hl ha
  have hlt : n < st.length := (List.getElem?_eq_some_iff.mp hn).1
  have at_ : ∀ {m x}, (st.set n c')[m]? = some x → (m = n ∧ x = c') ∨ (m ≠ n ∧ st[m]? = some x) := fun {m x} h => by
    by_cases hm : m = n
    · subst hm
      rw [List.getElem?_set_self hlt] at h
      exact .inl ⟨rfl, (Option.some.inj h).symm⟩
    · rw [List.getElem?_set_ne (Ne.symm hm)] at h
      exact .inr ⟨hm, h⟩
  have mtb : ∀ u, H a = some u → (∀ ps, u ≠ .tbl ps) ∧ ∀ φ, u ≠ .ext φ := fun u hu => by
    have h2 := s.cell n c a hn ha
    cases c with
    | lst _ => obtain ⟨us, h5, _⟩ := h2; rw [hu] at h5; cases h5; exact ⟨fun _ z => (by cases z), fun _ z => (by cases z)⟩
    | dic _ => obtain ⟨us, h5, _⟩ := h2; rw [hu] at h5; cases h5; exact ⟨fun _ z => (by cases z), fun _ z => (by cases z)⟩
    | ins _ _ => obtain ⟨_, us, h5, _⟩ := h2; rw [hu] at h5; cases h5; exact ⟨fun _ z => (by cases z), fun _ z => (by cases z)⟩
    | rol _ => cases hl
    | dead => cases hl
    | clo _ _ _ => cases hl
  refine ⟨fun b u q => ?_, by rw [List.length_set]; exact s.len, fun m x b e1 e2 => ?_, fun m x b e1 e2 e3 => ?_, fun m k x y b e1 e2 l1 l2 e3 e4 => ?_, s.nt, fun p hp => ?_⟩
  rotate_right
  · obtain ⟨ps, t1, t2, t3⟩ := s.tb p hp
    refine ⟨ps, ?_, t2, fun pos cv hc => ?_⟩
    · rw [upd_ne (fun z : p.1 = a => (mtb (.tbl ps) (by rw [← z]; exact t1)).1 ps rfl)]; exact t1
    · obtain ⟨c0, e1, e2⟩ := t3 pos cv hc
      exact ⟨c0, e1, by rw [upd_ne (fun z : c0 = a => (mtb (LamX.CodeO c0 p.2) (by rw [← z]; exact e2)).2 _ rfl)]; exact e2⟩
  · rw [upd_ne (ne_of_none q hf)]; exact s.fz b u q
  · rcases at_ e1 with ⟨rfl, rfl⟩ | ⟨hm, h1⟩
    · rw [ha] at e2; cases e2; exact hc
    · by_cases hb : b = a
      · subst hb
        cases hx : x.live with
        | true => exact absurd (s.inj m n x c b h1 hn hx hl e2 ha) hm
        | false =>
          cases x with
          | lst _ => cases hx
          | dic _ => cases hx
          | ins _ _ => cases hx
          | dead => trivial
          | clo j F γ => exact s.cell m _ b h1 e2
          | rol ds =>
            have h2 := s.cell n c b hn ha
            obtain ⟨vs, h3, h4⟩ := s.cell m _ b h1 e2
            refine ⟨vs, ?_, h4⟩
            rcases h3 with ⟨ob, h⟩ | h
            · exfalso
              cases c with
              | lst _ => obtain ⟨us, h5, _⟩ := h2; rw [h] at h5; cases h5
              | dic _ => obtain ⟨us, h5, _⟩ := h2; rw [h] at h5; cases h5
              | ins _ _ => obtain ⟨_, us, h5, _⟩ := h2; rw [h] at h5; cases h5
              | rol _ => cases hl
              | dead => cases hl
              | clo _ _ _ => cases hl
            · exact .inr h
      · exact (s.cell m x b h1 e2).mono .rfl' fun u q => by rw [upd_ne hb]; exact q
  · rcases at_ e1 with ⟨rfl, rfl⟩ | ⟨hm, h1⟩
    · rw [ha] at e3; cases e3; exact hf
    · exact s.ap m x b h1 e2 e3
  · have key : ∀ {i : Nat} {z : Cell}, (st.set n c')[i]? = some z → z.live = true → W.io[i]? = some b → ∃ z' : Cell, st[i]? = some z' ∧ z'.live = true := fun {i z} h1 h2 h3 => by
      rcases at_ h1 with ⟨rfl, rfl⟩ | ⟨_, h4⟩
      · exact ⟨c, hn, hl⟩
      · exact ⟨z, h4, h2⟩
    obtain ⟨x', h1, h2⟩ := key e1 l1 e3
    obtain ⟨y', h3, h4⟩ := key e2 l2 e4
    exact s.inj m k x' y' b h1 h3 h2 h4 e3 e4
end
end Gm
namespace Gm
open PySem PySem.Spec PyProof.Rows L2
@[simp] theorem Res.bind_ok {α β : Type} (a : α) (st : Store) (k : α → Store → Res β) : (Res.ok a st).bind k = k a st := rfl
@[simp] theorem Res.bind_err {α β : Type} (x : Exn) (st : Store) (k : α → Store → Res β) : (Res.err x st).bind k = .err x st := rfl
@[simp] theorem Res.bind_stuck {α β : Type} (k : α → Store → Res β) : (Res.stuck).bind k = .stuck := rfl
def Res.toS {α : Type} (r : Res α) (ρ : Ev) (k : α → Store → SR) : SR := match r with
  | .ok a st => k a st
  | .err x st => .err x ρ st
  | .stuck => .stuck
@[simp] theorem Res.toS_ok {α : Type} (a : α) (st : Store) (ρ : Ev) (k : α → Store → SR) : (Res.ok a st).toS ρ k = k a st := rfl
@[simp] theorem Res.toS_err {α : Type} (x : Exn) (st : Store) (ρ : Ev) (k : α → Store → SR) : (Res.err (α := α) x st).toS ρ k = .err x ρ st := rfl
@[simp] theorem Res.toS_stuck {α : Type} (ρ : Ev) (k : α → Store → SR) : (Res.stuck (α := α)).toS ρ k = .stuck := rfl

section
variable (K : PySem.W.Frag) (L : Lw) (Wx : WX) (W : Wd) (σ : St)
end
section
variable {K : PySem.W.Frag} {L : Lw} {Wx : WX} {W W1 : Wd} {σ : St}
end

section
variable (L : Lw) (X : Cx) (Wx : WX)
def RCv (f : Value) (g : List D → Store → Res D) : Prop :=
  ∀ (pins : List (Addr × Obj)) (s : Shared) (σ : St) (H : Hp) (W : Wd) (st : Store) (ds : List D) (xs : List V) (us : List Value) (Q : VK), Inv X pins σ H s → Sok X.K L W st H → Rls X.K L W ds xs → Vals xs us →
    Out X.K L Wx W σ (okE X.K L Q) (g ds st) → wpAny (model X.prog X.w) X.A (call f us) (EP X pins σ Q) X.xe s
end

section
variable {L : Lw} {X : Cx} {Wx : WX}
section
variable {pins : List (Addr × Obj)} {s : Shared} {σ : St} {H : Hp} {W : Wd} {st : Store} {ρ : Ev} {e : Expr} {f : Fe}
theorem RE.bindS {D' : Ends} {k : D → Store → SR} {P : Value → Shared → Prop} (h : RE L X Wx e f) (I : Inv X pins σ H s) (S : Sok X.K L W st H) (E : EnR X.K L W σ ρ) (o : OutS X.K L Wx W D' ((f ρ st).toS ρ k))
    (hk : ∀ d st1 W1 H1 v u s1, W.le W1 → Inv X pins σ H1 s1 → Sok X.K L W1 st1 H1 → Rl X.K L W1 d v → RelV v u → OutS X.K L Wx W1 D' (k d st1) → P u s1) :
    wpAny (model X.prog X.w) X.A (eval e X.env) P X.xe s := by
  refine h.seq I S E rfl (fun x st' q => ?_) (fun q => ?_) fun d st1 W1 H1 v u s1 q e1 I1 S1 R1 rv => ?_
  · rw [q] at o; exact fun W' H' cls dx e' S' R' => o W' H' σ cls dx e' S' (E.mono e') R'
  · rw [q] at o; exact o
  · rw [q] at o; exact hk d st1 W1 H1 v u s1 e1 I1 S1 R1 rv (OutS.mono e1 o)
theorem RT.bindS {f : Ft} {D' : Ends} {k : Bool → Store → SR} {P : Bool → Shared → Prop} (h : RT L X Wx e f) (I : Inv X pins σ H s) (S : Sok X.K L W st H) (E : EnR X.K L W σ ρ) (o : OutS X.K L Wx W D' ((f ρ st).toS ρ k))
    (hk : ∀ b st1 W1 H1 s1, W.le W1 → Inv X pins σ H1 s1 → Sok X.K L W1 st1 H1 → OutS X.K L Wx W1 D' (k b st1) → P b s1) :
    wpAny (model X.prog X.w) X.A (isTrue e X.env (eval e X.env)) P X.xe s := by
  refine h.seq I S E rfl (fun x st' q => ?_) (fun q => ?_) fun d st1 W1 H1 s1 q e1 I1 S1 => ?_
  · rw [q] at o; exact fun W' H' cls dx e' S' R' => o W' H' σ cls dx e' S' (E.mono e') R'
  · rw [q] at o; exact o
  · rw [q] at o; exact hk d st1 W1 H1 s1 e1 I1 S1 (OutS.mono e1 o)
end
end
end Gm
namespace Gm
open PySem PySem.Spec PyProof.Rows L2
def xK (d : D) : Fe := fun _ st => .ok d st
def xUn (g : D → Store → Res D) (f : Fe) : Fe := fun ρ st => (f ρ st).bind g
def xBin (g : D → D → Store → Res D) (f h : Fe) : Fe := fun ρ st => (f ρ st).bind fun a st => (h ρ st).bind fun b st => g a b st
def xTup (r : Fa) : Fe := fun ρ st => (r ρ st).bind fun l st => .ok (.tup l) st
def newLst (l : List D) (st : Store) : Res D := .ok (.ref st.length) (st ++ [.lst l])
def xLst (r : Fa) : Fe := fun ρ st => (r ρ st).bind newLst
def tOf (g : D → Store → Res Bool) (f : Fe) : Ft := fun ρ st => (f ρ st).bind g
def tNot (t : Ft) : Ft := fun ρ st => (t ρ st).bind fun b st => .ok (!b) st
def tAnd (t u : Ft) : Ft := fun ρ st => (t ρ st).bind fun b st => if b then u ρ st else .ok false st
def tOr (t u : Ft) : Ft := fun ρ st => (t ρ st).bind fun b st => if b then .ok true st else u ρ st
def xIf (t : Ft) (f g : Fe) : Fe := fun ρ st => (t ρ st).bind fun b st => if b then f ρ st else g ρ st
def xNot (g : D → Store → Res Bool) (f : Fe) : Fe := fun ρ st => (f ρ st).bind fun d st => (g d st).bind fun b st => .ok (.bl (!b)) st
def xAnd (g : D → Store → Res Bool) (f h : Fe) : Fe := fun ρ st => (f ρ st).bind fun d st => (g d st).bind fun b st => if b then h ρ st else .ok d st
def xOr (g : D → Store → Res Bool) (f h : Fe) : Fe := fun ρ st => (f ρ st).bind fun d st => (g d st).bind fun b st => if b then .ok d st else h ρ st
def tChain (g g' : D → D → Store → Res D) (tr : D → Store → Res Bool) (f h k : Fe) : Ft := fun ρ st => (f ρ st).bind fun a st => (h ρ st).bind fun b st => (g a b st).bind fun c st => (tr c st).bind fun q st =>
  if q then (k ρ st).bind fun e st => (g' b e st).bind tr else .ok false st

section
variable {L : Lw} {X : Cx} {Wx : WX} {a b c : Expr} {f h k : Fe} {pos : Pos}
theorem re_k {e : Expr} {v : V} {d : D} (p : PE X e (tC v)) (r : ∀ W, Rl X.K L W d v) : RE L X Wx e (xK d) := RE.of_pe p fun σ H W st ρ Q S E o => o W H .rfl' S v (r W)
theorem re_int {i : Int} {j : Nat} : RE L X Wx (.Constant (.int i) j pos) (xK (.int i)) := re_k pe_int fun _ => Rl.int.mpr rfl
theorem re_bl {i : Bool} {j : Nat} : RE L X Wx (.Constant (.bool i) j pos) (xK (.bl i)) := re_k pe_bl fun _ => Rl.bl.mpr rfl
theorem re_non {j : Nat} : RE L X Wx (.Constant .none j pos) (xK .non) := re_k pe_non fun _ => Rl.non.mpr rfl
theorem re_str {x : Str} {j : Nat} : RE L X Wx (.Constant (.str x) j pos) (xK (.str x)) := re_k pe_str fun _ => Rl.str.mpr rfl

theorem binRun {g : D → D → Store → Res D} {F : Value → Value → Sem Value} {P : Value → Shared → Prop} (ha : RE L X Wx a f) (hb : RE L X Wx b h) {pins : List (Addr × Obj)} {s : Shared} {σ : St} {H : Hp} {W : Wd} {st : Store} {ρ : Ev} {β : Type} {Ok : Wd → Hp → β → Prop} {k : D → D → Store → Res β}
    (I : Inv X pins σ H s) (S : Sok X.K L W st H) (E : EnR X.K L W σ ρ) (o : Out X.K L Wx W σ Ok ((f ρ st).bind fun a st => (h ρ st).bind fun b st => k a b st))
    (hk : ∀ d1 d2 st2 W2 H2 x y v u s2, W.le W2 → Inv X pins σ H2 s2 → Sok X.K L W2 st2 H2 → Rl X.K L W2 d1 x → Rl X.K L W2 d2 y → RelV x v → RelV y u → Out X.K L Wx W2 σ Ok (k d1 d2 st2) → wpAny (model X.prog X.w) X.A (F v u) P X.xe s2) :
    wpAny (model X.prog X.w) X.A (eval a X.env) (fun v s₁ => wpAny (model X.prog X.w) X.A (eval b X.env) (fun u s₂ => wpAny (model X.prog X.w) X.A (F v u) P X.xe s₂) X.xe s₁) X.xe s := by
  refine ha.bind I S E o fun d1 st1 W1 H1 x v s1 e1 I1 S1 R1 r1 o1 => ?_
  refine hb.bind I1 S1 (E.mono e1) o1 fun d2 st2 W2 H2 y u s2 e2 I2 S2 R2 r2 o2 => ?_
  exact hk d1 d2 st2 W2 H2 x y v u s2 (e1.trans e2) I2 S2 (R1.mono e2) R2 r1 r2 o2
theorem re_bin {op : Operator} {g : D → D → Store → Res D} (ho : R2v L X Wx (binaryOp op) g) (ha : RE L X Wx a f) (hb : RE L X Wx b h) : RE L X Wx (.BinOp a op b pos) (xBin g f h) :=
  ⟨fun pins s σ H W st ρ Q I S E o => wpAny_BinOp (binRun (F := binaryOp op) (g := g) ha hb I S E o fun d1 d2 st2 W2 H2 x y v u s2 _ I2 S2 R1 R2 r1 r2 o2 => ho pins s2 σ H2 W2 st2 d1 d2 x y v u Q I2 S2 R1 R2 r1 r2 o2)⟩
theorem re_un {op : UnaryOp} {g : D → Store → Res D} (ho : R1v L X Wx (unaryOp op) g) (ha : RE L X Wx a f) : RE L X Wx (.UnaryOp op a pos) (xUn g f) :=
  ⟨fun pins s σ H W st ρ Q I S E o => UnaryOp_ (ha.bind I S E o fun d1 st1 W1 H1 x v s1 e1 I1 S1 R1 r1 o1 => ho pins s1 σ H1 W1 st1 d1 x v Q I1 S1 R1 r1 o1)⟩
theorem re_cmp {op : CmpOp} {g : D → D → Store → Res D} (ho : R2v L X Wx (compareOp op) g) (ha : RE L X Wx a f) (hb : RE L X Wx b h) (hm : behindInMarks op b = false) : RE L X Wx (.Compare a [op] [b] pos) (xBin g f h) :=
  ⟨fun pins s σ H W st ρ Q I S E o => wpAny_Compare1 (binRun (F := compareOp op) (g := g) ha hb I S E o fun d1 d2 st2 W2 H2 x y v u s2 _ I2 S2 R1 R2 r1 r2 o2 => ho pins s2 σ H2 W2 st2 d1 d2 x y v u Q I2 S2 R1 R2 r1 r2 o2) hm⟩

theorem rt_cmp {op : CmpOp} {g : D → D → Store → Res D} {tr : D → Store → Res Bool} (ht : Rtv L X Wx tr) (ho : R2v L X Wx (compareOp op) g) (ha : RE L X Wx a f) (hb : RE L X Wx b h) (hm : behindInMarks op b = false) : RT L X Wx (.Compare a [op] [b] pos) (tOf tr (xBin g f h)) := by
  refine ⟨fun pins s σ H W st ρ Q I S E o => wpAny_isTrue_Compare1 ?_ hm⟩
  have o' : Out X.K L Wx W σ (okT Q) ((f ρ st).bind fun a st => (h ρ st).bind fun b st => (g a b st).bind tr) := by
    unfold tOf xBin at o
    revert o
    cases f ρ st with
    | ok d st1 =>
      simp only [Res.bind_ok]
      cases h ρ st1 with
      | ok d st1 => exact id
      | err x st1 => exact id
      | stuck => exact id
    | err x st1 => exact id
    | stuck => exact id
  refine binRun (g := g) (F := compareOp op) ha hb I S E o' fun d1 d2 st2 W2 H2 x y v u s2 _ I2 S2 R1 R2 r1 r2 o2 => ?_
  exact ho.bind I2 S2 R1 R2 r1 r2 o2 fun d st3 W3 H3 z w s3 e3 I3 S3 R3 r3 o3 => ht pins s3 σ H3 W3 st3 d z w Q I3 S3 R3 r3 o3
theorem rt_of {g : D → Store → Res Bool} (ht : Rtv L X Wx g) (ha : RE L X Wx a f) (he : ∀ whole, isTrue a X.env whole = (do let v ← whole; standAt a.pos; holding [v] (truthy v)) := by intro _; rfl) : RT L X Wx a (tOf g f) :=
  ⟨fun pins s σ H W st ρ Q I S E o => isTrue_plain (ha.bind I S E o fun d st1 W1 H1 x v s1 e1 I1 S1 R1 r1 o1 => ht pins s1 σ H1 W1 st1 d x v Q I1 S1 R1 r1 o1) (he _)⟩
theorem rw_and1 {t : Ft} (ha : RT L X Wx a t) : RW L X Wx (.BoolOp .And [a] pos) t := by
  refine ⟨fun wh pins s σ H W st ρ Q I S E o => isTrue_and (thn (ha.run pins s σ H W st ρ Q I S E o) fun c s1 q => ?_)⟩
  cases c with
  | true => exact isTrue_and_nil q
  | false => exact q
theorem rw_or1 {t : Ft} (ha : RT L X Wx a t) : RW L X Wx (.BoolOp .Or [a] pos) t := by
  refine ⟨fun wh pins s σ H W st ρ Q I S E o => isTrue_or (thn (ha.run pins s σ H W st ρ Q I S E o) fun c s1 q => ?_)⟩
  cases c with
  | false => exact isTrue_or_nil q
  | true => exact q
theorem rw_and {rest : List Expr} {t u : Ft} (ha : RT L X Wx a t) (hb : RW L X Wx (.BoolOp .And (b :: rest) pos) u) : RW L X Wx (.BoolOp .And (a :: b :: rest) pos) (tAnd t u) := by
  refine ⟨fun wh pins s σ H W st ρ Q I S E o => isTrue_and (ha.bind I S E o fun c st1 W1 H1 s1 e1 I1 S1 o1 => ?_)⟩
  cases c with
  | true => exact hb.run wh pins s1 σ H1 W1 st1 ρ Q I1 S1 (E.mono e1) o1
  | false => exact ⟨H1, I1, o1 W1 H1 .rfl' S1⟩
theorem rw_or {rest : List Expr} {t u : Ft} (ha : RT L X Wx a t) (hb : RW L X Wx (.BoolOp .Or (b :: rest) pos) u) : RW L X Wx (.BoolOp .Or (a :: b :: rest) pos) (tOr t u) := by
  refine ⟨fun wh pins s σ H W st ρ Q I S E o => isTrue_or (ha.bind I S E o fun c st1 W1 H1 s1 e1 I1 S1 o1 => ?_)⟩
  cases c with
  | false => exact hb.run wh pins s1 σ H1 W1 st1 ρ Q I1 S1 (E.mono e1) o1
  | true => exact ⟨H1, I1, o1 W1 H1 .rfl' S1⟩
theorem rt_not {t : Ft} (ha : RT L X Wx a t) : RT L X Wx (.UnaryOp .Not a pos) (tNot t) :=
  ⟨fun pins s σ H W st ρ Q I S E o => isTrue_not (ha.bind I S E o fun c st1 W1 H1 s1 e1 I1 S1 o1 => ⟨H1, I1, o1 W1 H1 .rfl' S1⟩)⟩
theorem re_one {op : BoolOp} (ha : RE L X Wx a f) : RE L X Wx (.BoolOp op [a] pos) f := ⟨fun pins s σ H W st ρ Q I S E o => BoolOp_one (ha.run pins s σ H W st ρ Q I S E o)⟩
theorem re_and {rest : List Expr} {g : D → Store → Res Bool} (ht : Rtv L X Wx g) (ha : RE L X Wx a f) (hb : RE L X Wx (.BoolOp .And (b :: rest) pos) h) : RE L X Wx (.BoolOp .And (a :: b :: rest) pos) (xAnd g f h) := by
  refine ⟨fun pins s σ H W st ρ Q I S E o => BoolOp_and (ha.bind I S E o fun d st1 W1 H1 x v s1 e1 I1 S1 R1 r1 o1 => ht.bind I1 S1 R1 r1 o1 fun q st2 W2 H2 s2 e2 I2 S2 o2 => ?_)⟩
  cases q with
  | true => exact hb.run pins s2 σ H2 W2 st2 ρ Q I2 S2 (E.mono (e1.trans e2)) o2
  | false => exact ⟨x, H2, I2, r1, o2 W2 H2 .rfl' S2 x (R1.mono e2)⟩
theorem re_or {rest : List Expr} {g : D → Store → Res Bool} (ht : Rtv L X Wx g) (ha : RE L X Wx a f) (hb : RE L X Wx (.BoolOp .Or (b :: rest) pos) h) : RE L X Wx (.BoolOp .Or (a :: b :: rest) pos) (xOr g f h) := by
  refine ⟨fun pins s σ H W st ρ Q I S E o => BoolOp_or (ha.bind I S E o fun d st1 W1 H1 x v s1 e1 I1 S1 R1 r1 o1 => ht.bind I1 S1 R1 r1 o1 fun q st2 W2 H2 s2 e2 I2 S2 o2 => ?_)⟩
  cases q with
  | false => exact hb.run pins s2 σ H2 W2 st2 ρ Q I2 S2 (E.mono (e1.trans e2)) o2
  | true => exact ⟨x, H2, I2, r1, o2 W2 H2 .rfl' S2 x (R1.mono e2)⟩
theorem re_not {g : D → Store → Res Bool} (ht : Rtv L X Wx g) (ha : RE L X Wx a f) : RE L X Wx (.UnaryOp .Not a pos) (xNot g f) :=
  ⟨fun pins s σ H W st ρ Q I S E o => UnaryOp_ (ha.bind I S E o fun d st1 W1 H1 x v s1 e1 I1 S1 R1 r1 o1 => not_of (ht.bind I1 S1 R1 r1 o1 fun q st2 W2 H2 s2 e2 I2 S2 o2 => ⟨.bl (!q), H2, I2, rfl, o2 W2 H2 .rfl' S2 _ (Rl.bl.mpr rfl)⟩))⟩
theorem re_ifExp {t : Ft} (hc : RT L X Wx c t) (ha : RE L X Wx a f) (hb : RE L X Wx b h) : RE L X Wx (.IfExp c a b pos) (xIf t f h) :=
  ⟨fun pins s σ H W st ρ Q I S E o => wpAny_IfExp (hc.bind I S E o fun d st1 W1 H1 s1 e1 I1 S1 o1 => by
    cases d with
    | true => exact ha.run pins s1 σ H1 W1 st1 ρ Q I1 S1 (E.mono e1) o1
    | false => exact hb.run pins s1 σ H1 W1 st1 ρ Q I1 S1 (E.mono e1) o1)⟩
theorem ra_nil : RA L X Wx [] aNil := ⟨fun ρ st ds st' e => by cases e; rfl, fun _ _ _ σ H W st ρ Q I S E o => Calls.spliced_nil ⟨[], H, I, .nil, o W H .rfl' S [] (Rls.nil.mpr rfl)⟩⟩
theorem ra_cons {es : List Expr} {r : Fa} (ha : RE L X Wx a f) (hr : RA L X Wx es r) (hs : starEach (a :: es) X.env = (false, eval a X.env) :: starEach es X.env := by rfl) : RA L X Wx (a :: es) (aCons f r) := by
  refine ⟨fun ρ st ds st' e => ?_, fun pos pins s σ H W st ρ Q I S E o => ?_⟩
  · unfold aCons at e
    revert e
    cases f ρ st with
    | ok d st1 =>
      simp only [Res.bind_ok]
      cases q : r ρ st1 with
      | ok l st2 => intro e; cases e; rw [List.length_cons, List.length_cons, hr.len _ _ _ _ q]
      | err x st1 => intro e; cases e
      | stuck => intro e; cases e
    | err x st1 => intro e; cases e
    | stuck => intro e; cases e
  · rw [hs]
    show wpAny _ _ (spliced ((false, eval a X.env) :: backTo pos (starEach es X.env))) _ _ s
    refine Calls.spliced_cons (ha.bind I S E o fun d st1 W1 H1 x v s1 e1 I1 S1 R1 r1 o1 => ?_)
    exact hr.bind I1 S1 (E.mono e1) o1 fun ds st2 W2 H2 vs us s2 _ e2 I2 S2 R2 r2 o2 => ⟨x :: vs, H2, I2, .cons r1 r2, o2 W2 H2 .rfl' S2 _ (Rls.mk (R1.mono e2) R2)⟩
theorem re_tup {es : List Expr} {r : Fa} {x1} (hr : RA L X Wx es r) (hz : es.length ≤ 1000 := by decide) : RE L X Wx (.Tuple es x1 pos) (xTup r) := by
  refine ⟨fun pins s σ H W st ρ Q I S E o => ?_⟩
  refine wpAny_Tuple_spliced (hr.bind I S E o fun ds st1 W1 H1 vs us s1 hl e1 I1 S1 R1 r1 o1 => ?_)
  have hlen : vs.length ≤ sizeLine := by rw [← R1.length, hl, sizeLine_eq]; omega
  refine ⟨by rw [← r1.length]; exact hlen, ?_⟩
  have hf : H1 s1.heap.objs.size = none := I1.hok.fresh (Nat.le_refl _)
  obtain ⟨e2, S2⟩ := S1.alloc_fz (o := .tup vs) hf
  refine ⟨.ref s1.heap.objs.size, upd H1 s1.heap.objs.size (.tup vs), I1.laid (t' := s1.toks) (fun b u e => Heap.get?_push_of_some _ e) (Nat.le_refl _) ⟨hlen, us, r1, ⟨_, Heap.get?_push_size _ rfl, rfl, _, rfl⟩⟩, rfl, ?_⟩
  exact o1 _ _ e2 S2 _ (Rl.tup.mpr ⟨_, vs, rfl, .inl (.inl (by show upd _ _ _ _ = _; exact upd_same)), R1.mono e2⟩)
theorem Sok.ofNew {K : PySem.W.Frag} {W : Wd} {st : Store} {H : Hp} {p : Addr} {ds : List D} {vs : List V} (S : Sok K L W st H) (hp : H p = none) (R : Rls K L W ds vs) : Sok K L (W.more p) (st ++ [.lst ds]) (upd H p (.lst vs)) :=
  S.alloc hp ⟨vs, upd_same, R.mono Wd.le_more⟩
theorem re_lst {es : List Expr} {r : Fa} (hr : RA L X Wx es r) (hz : es.length ≤ 1000 := by decide) : RE L X Wx (.List es pos) (xLst r) := by
  refine ⟨fun pins s σ H W st ρ Q I S E o => ?_⟩
  refine wpAny_List_spliced (hr.bind I S E o fun ds st1 W1 H1 vs us s1 hl e1 I1 S1 R1 r1 o1 => ?_)
  have hlen : vs.length ≤ sizeLine := by rw [← R1.length, hl, sizeLine_eq]; omega
  refine ⟨by rw [← r1.length]; exact hlen, ?_⟩
  have hf : H1 s1.heap.objs.size = none := I1.hok.fresh (Nat.le_refl _)
  refine ⟨.ref s1.heap.objs.size, upd H1 s1.heap.objs.size (.lst vs), I1.laid (t' := s1.toks) (fun b u e => Heap.get?_push_of_some _ e) (Nat.le_refl _) ⟨hlen, us, 0, r1, Heap.get?_push_size _ rfl⟩, rfl, ?_⟩
  exact o1 _ _ Wd.le_more (S1.ofNew hf R1) _ (Rl.newRef S1)
end
end Gm
namespace Gm
open PySem PySem.Spec PyProof.Rows L2
def opr : Operator → Nat
  | .Add => 11 | .Sub => 12 | .Mult => 13 | .FloorDiv => 14 | .Mod => 15 | .Pow => 16 | .BitAnd => 17 | .BitOr => 18 | .BitXor => 19 | _ => 0
def cmn : CmpOp → Nat
  | .Eq => 21 | .Lt => 22 | .LtE => 23 | .Gt => 24 | .GtE => 25 | _ => 0
def cmr : CmpOp → Nat
  | .Eq => 21 | .Lt => 24 | .LtE => 25 | .Gt => 22 | .GtE => 23 | _ => 0
theorem opn_name {op : Operator} (h : opn op ≠ 0) : nameOf (opn op) = PySem.dunder op.info.2 ∧ nameOf (opn op) ≠ "" ∧ opn op < 40 := by
  cases op <;> first | exact absurd rfl h | decide +kernel
theorem opr_name {op : Operator} (h : opn op ≠ 0) : nameOf (opr op) = dunderR op.info.2 ∧ nameOf (opr op) ≠ "" ∧ opr op < 40 ∧ opr op ≠ 0 := by
  cases op <;> first | exact absurd rfl h | decide +kernel

section
variable {L : Lw} {X : Cx} {Wx : WX} {k : Nat} {c : Fn}
theorem Gd.callN (G : Gd L X Wx k c) {f : Nat} (hf : L.isF f = true) {pins : List (Addr × Obj)} {s : Shared} {σ : St} {H : Hp} {W : Wd} {st : Store} {ds : List D} {vs : List V} {us : List Value} (I : Inv X pins σ H s) (S : Sok X.K L W st H)
    (R : Rls X.K L W ds vs) (r : Vals vs us) (hd : [] ∈ L.dfl f) (hl : ds.length = (L.fps f).length) (hn : c (f + niB) ds st = .ok (.bl true) st) :
    wpAny (model X.prog X.w) X.A (PySem.call (.ref (L.fad f)) us) (fun v s' => v = .notImplemented ∧ ∃ W' H', W.le W' ∧ Inv X pins σ H' s' ∧ Sok X.K L W' st H') X.xe s := by
  have sb : Sub X k X.A := ⟨G.room.mono (Nat.le_add_right k 9), rfl⟩
  obtain ⟨dvs, dsV, hb, hdd, hT⟩ := G.fo.bt f hf [] hd
  have e1 : dvs = [] := Rls.nil.mp (hT W)
  subst e1
  cases hdd
  have e0 : Env0 X.prog X.w X.K X.mg X.base X.A X.stack s H := I.env0
  have hl' : vs.length = (L.fps f).length := by rw [← R.length]; exact hl
  have hl2 : (us ++ []).length = (L.fps f).length := by rw [List.append_nil, ← r.length]; exact hl'
  have hbt := hb s us I.kIn hl2
  rw [List.append_nil] at hbt
  refine wpAny_call (codeAny_mono ((G.fo.no f hf).run X.A X.stack s H ⟨us, []⟩ us vs ds W st (WE Wx σ) sb.room e0 hbt r hl' R S hn) fun r s' hq => ?_)
  cases r with
  | error e => exact passAt G.tk σ pins H s e s' I hq
  | ok fl =>
    cases fl with
    | ret u =>
      obtain ⟨rfl, hq⟩ := hq
      obtain ⟨v, H', I', _, _, W', e', S'⟩ := I.after hq
      exact ⟨rfl, W', H', e', I', S'⟩
    | next => exact False.elim hq
    | brk => exact False.elim hq
    | cont => exact False.elim hq
theorem inst_of {pins : List (Addr × Obj)} {s : Shared} {σ : St} {H : Hp} {W : Wd} {st : Store} {i : Nat} {ds : List D} {x : V} (I : Inv X pins σ H s) (S : Sok X.K L W st H) (R : Rl X.K L W (.obj i ds) x) :
    ∃ a dx od, x = .ref a ∧ PySem.W.InstAt s.heap a (PySem.W.instObj (L.cad i) dx) (L.cad i) (some od) := by
  obtain ⟨a, dx, vs, rfl, h1, h2, h3⟩ := Rl.obj.mp R
  obtain ⟨mA, J, _⟩ := ins_get I.hok (S.fz _ _ h1)
  obtain ⟨od, J, _⟩ := J.look
  exact ⟨a, dx, od, rfl, J⟩
end
open Classical in
noncomputable def intBin (op : Operator) (i j : Int) (st : Store) : Res D := match op with
  | .Add => .ok (.int (i + j)) st
  | .Sub => .ok (.int (i - j)) st
  | .Mult => if IntMulOk i j then .ok (.int (i * j)) st else .stuck
  | .FloorDiv => if j ≠ 0 ∧ j.natAbs.log2 < 9000 then .ok (.int (i.fdiv j)) st else .stuck
  | .Mod => if j ≠ 0 then .ok (.int (i.fmod j)) st else .stuck
  | .Pow => if 0 ≤ j ∧ j ≤ 1000000 ∧ i.natAbs < 2 ^ 64 then .ok (.int (i ^ j.toNat)) st else .stuck
  | _ => .stuck
section
variable {L : Lw} {X : Cx} {Wx : WX} {k : Nat} {c : Fn}
theorem EP.of_ok {K : PySem.W.Frag} {pins : List (Addr × Obj)} {s : Shared} {σ : St} {H : Hp} {W : Wd} {st : Store} {d : D} {v : V} {u : Value} {Q : VK} (I : Inv X pins σ H s) (S : Sok X.K L W st H) (R : Rl X.K L W d v) (r : RelV v u)
    (o : Out X.K L Wx W σ (okE X.K L Q) (.ok d st)) : EP X pins σ Q u s := ⟨v, H, I, r, o W H .rfl' S v R⟩
theorem intBin_ok {op : Operator} {pins : List (Addr × Obj)} {s : Shared} {σ : St} {H : Hp} {W : Wd} {st : Store} {i j : Int} {t u : Tok} {Q : VK} (I : Inv X pins σ H s) (S : Sok X.K L W st H)
    (o : Out X.K L Wx W σ (okE X.K L Q) (intBin op i j st)) : wpAny (model X.prog X.w) X.A (binaryOp op (.int i t) (.int j u)) (EP X pins σ Q) X.xe s := by
  have fin : ∀ {n : Int} {tk : Nat} {t : Tok}, Out X.K L Wx W σ (okE X.K L Q) (.ok (.int n) st) → EP X pins σ Q (.int n t) { s with toks := tk } := fun {n tk t} o => EP.of_ok (K := X.K) (I.tok _) S (Rl.int.mpr rfl) ⟨t, rfl⟩ o
  unfold intBin at o
  cases op with
  | Add => exact add_int (fin o)
  | Sub => exact sub_int (fin o)
  | Mult =>
    dsimp only at o
    split at o
    · rename_i hm; exact mul_int (fin o) hm
    · exact o.elim
  | FloorDiv =>
    dsimp only at o
    split at o
    · rename_i hm; exact floordiv_int hm.1 (fin o) (.inl (PyProof.noPylong_of_log2 hm.2))
    · exact o.elim
  | Mod =>
    dsimp only at o
    split at o
    · rename_i hm; exact mod_int' hm (fin o)
    · exact o.elim
  | Pow =>
    dsimp only at o
    split at o
    · rename_i hm; exact pow_int_small hm.1 hm.2.1 hm.2.2 (fin o)
    · exact o.elim
  | _ => exact o.elim
end
end Gm
namespace Gm
open PySem PySem.Spec PySem.Calls PyProof.Rows PySem.W
theorem io_add : IntOp .Add Builtin.«int.__add__» "int.__add__" := ⟨PySem.F.slot_int_add, PySem.F.fills_int_add, PySem.F.entry_int_add, PySem.F.args_int_add_2, fun a t l C dx => .of_wp fun prog w A R s h => by
  obtain ⟨hp, g, d, tk, os⟩ := s; obtain ⟨hl, h⟩ := h; wp_walk; exact ⟨_, rfl, h⟩⟩
theorem io_sub : IntOp .Sub Builtin.«int.__sub__» "int.__sub__" := ⟨PySem.F.slot_int_sub, PySem.F.fills_int_sub, PySem.F.entry_int_sub, PySem.F.args_int_sub_2, fun a t l C dx => .of_wp fun prog w A R s h => by
  obtain ⟨hp, g, d, tk, os⟩ := s; obtain ⟨hl, h⟩ := h; wp_walk; exact ⟨_, rfl, h⟩⟩
theorem io_mul : IntOp .Mult Builtin.«int.__mul__» "int.__mul__" := ⟨PySem.F.slot_int_mul, PySem.F.fills_int_mul, PySem.F.entry_int_mul, PySem.F.args_int_mul_2, fun a t l C dx => .of_wp fun prog w A R s h => by
  obtain ⟨hp, g, d, tk, os⟩ := s; obtain ⟨hl, h⟩ := h; wp_walk; exact ⟨_, rfl, h⟩⟩
theorem io_floordiv : IntOp .FloorDiv Builtin.«int.__floordiv__» "int.__floordiv__" := ⟨PySem.F.slot_int_floordiv, PySem.F.fills_int_floordiv, PySem.F.entry_int_floordiv, PySem.F.args_int_floordiv_2, fun a t l C dx => .of_wp fun prog w A R s h => by
  obtain ⟨hp, g, d, tk, os⟩ := s; obtain ⟨hl, h⟩ := h; wp_walk; exact ⟨_, rfl, h⟩⟩
theorem io_mod : IntOp .Mod Builtin.«int.__mod__» "int.__mod__" := ⟨PySem.F.slot_int_mod, PySem.F.fills_int_mod, PySem.F.entry_int_mod, PySem.F.args_int_mod_2, fun a t l C dx => .of_wp fun prog w A R s h => by
  obtain ⟨hp, g, d, tk, os⟩ := s; obtain ⟨hl, h⟩ := h; wp_walk; exact ⟨_, rfl, h⟩⟩

section
variable {prog : Program} {w : World} {A : Around} {E : Value → Shared → Prop} {s : Shared} {K : Frag} {x C C2 L f : Addr} {h₀ : Heap} {m : Str → Option Value} {ox : Obj} {od : Option Obj}
theorem own_own {op : Operator} {b g : Addr} {oy : Obj} {od2 : Option Obj} {rc : Option Value} {Q : Value → Shared → Prop} (F : Fr h₀ L s.heap m) (X₀ : K.In h₀) (I : InstAt s.heap x ox C od) (J : InstAt s.heap b oy C2 od2) (hne : C ≠ C2)
    (hc : selfFirst K C = true) (hc2 : selfFirst K C2 = true)
    (hs : findIn K (.ref C) (PySem.dunder op.info.2) = some (some (.ref f))) (hf : isFn K (.ref f) = true) (hr : findIn K (.ref C) (dunderR op.info.2) = some rc) (hp : rc = none ∨ ∃ g : Addr, rc = some (.ref g))
    (hs2 : findIn K (.ref C2) (PySem.dunder op.info.2) = some (some (.ref g))) {rc2 : Option Value} (hr2 : findIn K (.ref C2) (dunderR op.info.2) = some rc2) (hp2 : rc2 = none ∨ ∃ g : Addr, rc2 = some (.ref g))
    (hsub : subIn K (.ref C2) (.ref C) = some false)
    (h : wpAny (model prog w) A (call (.ref f) [.ref x, .ref b]) (PySem.W.CmpBack Q) E s) : wpAny (model prog w) A (binaryOp op (.ref x) (.ref b)) Q E s := by
  have X := X₀.keeps F.keep
  obtain ⟨cd, rest, hcd, hm⟩ := ksp_first hc
  obtain ⟨cd2, rest2, hcd2, hm2⟩ := ksp_first hc2
  rcases hi : op.info with ⟨sym, nm'⟩
  rw [hi] at hs hr hs2 hr2
  dsimp only at hs hr hs2 hr2
  have one := ksp_try X I hs hf h
  obtain ⟨hh, g', d, tt, os⟩ := s
  have L1 : Looks (model prog w) hh (typeOf (.ref x)) (.ref C) := I.type
  have L2 : Looks (model prog w) hh (typeOf (.ref b)) (.ref C2) := J.type
  have L3 : Looks (model prog w) hh (fillsNumberSlot (.ref C) nm') true := fills_K X hcd hm hs
  have L4 : Looks (model prog w) hh (fillsNumberSlot (.ref C2) nm') true := fills_K X hcd2 hm2 hs2
  have L5 : Looks (model prog w) hh (isSubtype (.ref C2) (.ref C)) false := looks_subIn X hsub
  have L6 : Looks (model prog w) hh (numberSlotInPython (.ref C) nm') true := ksp_inPy X hs hr hp
  have L7 : Looks (model prog w) hh (numberSlotInPython (.ref C2) nm') true := ksp_inPy X hs2 hr2 hp2
  have hne' : (Value.ref C == Value.ref C2) = false := Bool.eq_false_iff.mpr fun q => hne (by cases beq_iff_eq.mp q; rfl)
  simp only [binaryOp, hi]
  refine wpAny_holding (wpAny_bind ?_)
  unfold binaryOp1
  refine wpAny_bind (L1.at (wpAny_bind (L2.at (wpAny_bind (L3.at ?_)))))
  simp only [hne', Bool.false_eq_true, if_false]
  ksp_lk
  refine wpAny_mono one (fun r s' hr' => ?_) fun _ _ e => e
  obtain ⟨v, rfl, hq⟩ := hr'
  ksp_lk
  exact hq

theorem int_own {op : Operator} {B : Builtin} {id : String} {b g : Addr} {dx : Addr} {i : Int} {t : Tok} {od2 : Option Obj} {Q : Value → Shared → Prop} (io : IntOp op B id) (F : Fr h₀ L s.heap m) (X₀ : K.In h₀) (J : InstAt s.heap b (instObj C dx) C od2)
    (hc : selfFirst K C = true) (hs : findIn K (.ref C) (PySem.dunder op.info.2) = some (some (.ref g))) (hr : findIn K (.ref C) (dunderR op.info.2) = some (some (.ref f))) (hf : isFn K (.ref f) = true) (hsub : subIn K (.ref C) (.type "int") = some false)
    (h : wpAny (model prog w) A (call (.ref f) [.ref b, .int i t]) (PySem.W.CmpBack Q) E s) : wpAny (model prog w) A (binaryOp op (.int i t) (.ref b)) Q E s := by
  have X := X₀.keeps F.keep
  obtain ⟨cd, rest, hcd, hm⟩ := ksp_first hc
  obtain ⟨slot, fills, entry, args, no⟩ := io
  rcases hi : op.info with ⟨sym, nm'⟩
  rw [hi] at hs hr slot fills
  dsimp only at hs hr slot fills
  have two := ksp_try X J hr hf h
  have hb := J.at_
  have T1 : s.TypeIs (.int i t) "int" := typeIs_int s i t
  have L1 : Looks (model prog w) s.heap (typeOf (.int i t)) (.type "int") := Looks.of_pure rfl
  have L2 : Looks (model prog w) s.heap (typeOf (.ref b)) (.ref C) := J.type
  have L3 : Looks (model prog w) s.heap (fillsNumberSlot (.type "int") nm') true := Looks.of_pure fills
  have L4 : Looks (model prog w) s.heap (fillsNumberSlot (.ref C) nm') true := fills_K X hcd hm hs
  have L5 : Looks (model prog w) s.heap (isSubtype (.ref C) (.type "int")) false := looks_subIn X hsub
  have L6 : Looks (model prog w) s.heap (numberSlotInPython (.type "int") nm') false := Looks.of_pure rfl
  have hne : (Value.type "int" == Value.ref C) = false := Bool.eq_false_iff.mpr fun q => by cases beq_iff_eq.mp q
  have dec : ∀ {Q : Option Value → Shared → Prop}, Q none s → wpAny (model prog w) A (tryMethod (.int i t) (PySem.dunder nm') (.ref b)) Q E s := fun {Q} q =>
    wpAny_tryMethod_declines T1 slot (call_meets slot T1 entry (args _ _) (no i t b C dx) ⟨hb, rfl, q⟩)
  simp only [binaryOp, hi]
  refine wpAny_holding (wpAny_bind ?_)
  unfold binaryOp1
  refine wpAny_bind (L1.here (wpAny_bind (L2.here (wpAny_bind (L3.here ?_)))))
  simp only [hne, Bool.false_eq_true, if_false]
  refine wpAny_bind (L4.here ?_)
  simp only [Bool.and_self, if_true]
  refine wpAny_bind (L5.here ?_)
  simp only [Bool.false_eq_true, if_false, Bool.not_false, Bool.and_self, if_true, pure_bind]
  refine wpAny_bind (L6.here ?_)
  simp only [Bool.false_eq_true, if_false, Bool.not_false, Bool.and_self, if_true, pure_bind]
  refine wpAny_bind (dec ?_)
  simp only [pure_bind, Bool.false_eq_true, if_false, Bool.not_false, Bool.and_self, if_true]
  refine wpAny_bind (wpAny_mono two (fun r s' hr' => ?_) fun _ _ e => e)
  obtain ⟨v, rfl, hq⟩ := hr'
  dsimp only
  exact wpAny_bind (wpAny_rule (wpAny_pure (wpAny_pure hq)))
end
section
variable {prog : Program} {w : World} {A : Around} {E : Value → Shared → Prop} {s : Shared} {K : Frag} {x C C2 L f g g2 : Addr} {h₀ : Heap} {m : Str → Option Value} {ox : Obj} {od : Option Obj}
theorem try_ni {R : Shared → Prop} {name : Str} {b : Value} (X : K.In s.heap) (I : InstAt s.heap x ox C od) (hs : findIn K (.ref C) name = some (some (.ref f))) (hf : isFn K (.ref f) = true)
    (h : wpAny (model prog w) A (call (.ref f) [.ref x, b]) (fun v s' => v = .notImplemented ∧ R s') E s) : wpAny (model prog w) A (tryMethod (.ref x) name b) (fun r s' => r = none ∧ R s') E s := by
  unfold tryMethod
  refine wpAny_bind (special_fn X I hs (beq_iff_eq.mp hf) (wpAny_mono h (fun v s' hv => ?_) fun _ _ e => e))
  obtain ⟨rfl, hv⟩ := hv
  exact wpAny_pure ⟨rfl, hv⟩
theorem own_ni {op : Operator} {b : Addr} {oy : Obj} {od2 : Option Obj} {rc : Option Value} {Q : Value → Shared → Prop} (F : Fr h₀ L s.heap m) (X₀ : K.In h₀) (I : InstAt s.heap x ox C od) (J : InstAt s.heap b oy C2 od2) (hne : C ≠ C2)
    (hc : selfFirst K C = true) (hc2 : selfFirst K C2 = true)
    (hs : findIn K (.ref C) (PySem.dunder op.info.2) = some (some (.ref f))) (hf : isFn K (.ref f) = true) (hr : findIn K (.ref C) (dunderR op.info.2) = some rc) (hp : rc = none ∨ ∃ g : Addr, rc = some (.ref g))
    (hs2 : findIn K (.ref C2) (PySem.dunder op.info.2) = some (some (.ref g2))) (hr2 : findIn K (.ref C2) (dunderR op.info.2) = some (some (.ref g))) (hg : isFn K (.ref g) = true)
    (hsub : subIn K (.ref C2) (.ref C) = some false)
    (h : wpAny (model prog w) A (call (.ref f) [.ref x, .ref b]) (fun v s' => v = .notImplemented ∧ K.In s'.heap ∧ (∃ ox od, InstAt s'.heap x ox C od) ∧ (∃ oy od, InstAt s'.heap b oy C2 od) ∧ wpAny (model prog w) A (call (.ref g) [.ref b, .ref x]) (PySem.W.CmpBack Q) E s') E s) : wpAny (model prog w) A (binaryOp op (.ref x) (.ref b)) Q E s := by
  have X := X₀.keeps F.keep
  obtain ⟨cd, rest, hcd, hm⟩ := ksp_first hc
  obtain ⟨cd2, rest2, hcd2, hm2⟩ := ksp_first hc2
  rcases hi : op.info with ⟨sym, nm'⟩
  rw [hi] at hs hr hs2 hr2
  dsimp only at hs hr hs2 hr2
  have one := try_ni X I hs hf h
  have L1 : Looks (model prog w) s.heap (typeOf (.ref x)) (.ref C) := I.type
  have L2 : Looks (model prog w) s.heap (typeOf (.ref b)) (.ref C2) := J.type
  have L3 : Looks (model prog w) s.heap (fillsNumberSlot (.ref C) nm') true := fills_K X hcd hm hs
  have L4 : Looks (model prog w) s.heap (fillsNumberSlot (.ref C2) nm') true := fills_K X hcd2 hm2 hs2
  have L5 : Looks (model prog w) s.heap (isSubtype (.ref C2) (.ref C)) false := looks_subIn X hsub
  have L6 : Looks (model prog w) s.heap (numberSlotInPython (.ref C) nm') true := ksp_inPy X hs hr hp
  have L7 : Looks (model prog w) s.heap (numberSlotInPython (.ref C2) nm') true := ksp_inPy X hs2 hr2 (.inr ⟨g, rfl⟩)
  have hne' : (Value.ref C == Value.ref C2) = false := Bool.eq_false_iff.mpr fun q => hne (by cases beq_iff_eq.mp q; rfl)
  simp only [binaryOp, hi]
  refine wpAny_holding (wpAny_bind ?_)
  unfold binaryOp1
  refine wpAny_bind (L1.here (wpAny_bind (L2.here (wpAny_bind (L3.here ?_)))))
  simp only [hne', Bool.false_eq_true, if_false]
  refine wpAny_bind (L4.here ?_)
  simp only [Bool.and_self, if_true]
  refine wpAny_bind (L5.here ?_)
  simp only [Bool.false_eq_true, if_false, Bool.not_false, Bool.and_self, if_true, pure_bind]
  refine wpAny_bind (L6.here ?_)
  simp only [Bool.false_eq_true, if_false, Bool.not_false, Bool.and_self, if_true, pure_bind]
  refine wpAny_bind (L7.here ?_)
  simp only [Bool.not_true, Bool.false_eq_true, if_false, Bool.not_false, Bool.and_self, if_true, pure_bind]
  refine wpAny_bind (wpAny_mono one (fun r s' hr' => ?_) fun _ _ e => e)
  obtain ⟨rfl, X', ⟨ox', od', I'⟩, ⟨oy', od2', J'⟩, h2⟩ := hr'
  have two := ksp_try X' J' hr2 hg h2
  have L1' : Looks (model prog w) s'.heap (typeOf (.ref x)) (.ref C) := I'.type
  have L2' : Looks (model prog w) s'.heap (typeOf (.ref b)) (.ref C2) := J'.type
  simp only [pure_bind, Bool.false_eq_true, if_false, Bool.not_false, Bool.and_self, if_true]
  refine wpAny_bind (L1'.here (wpAny_bind (L2'.here ?_)))
  simp only [hne', pure_bind, Bool.false_eq_true, if_false, Bool.not_false, Bool.and_self, if_true]
  refine wpAny_bind (wpAny_mono two (fun r s' hr' => ?_) fun _ _ e => e)
  obtain ⟨v, rfl, hq⟩ := hr'
  dsimp only
  exact wpAny_bind (wpAny_rule (wpAny_pure (wpAny_pure hq)))
end
namespace IC
open PySem.W PySem.Calls
theorem ic_lt : IntCmp .Lt Builtin.«int.__lt__» "int.__lt__" := ⟨PySem.F.slot_int_lt, PySem.F.entry_int_lt, PySem.F.args_int_lt_2, fun a t l C dx => .of_wp fun prog w A R s h => by
  obtain ⟨hp, g, d, tk, os⟩ := s; obtain ⟨hl, h⟩ := h; wp_walk; exact ⟨_, rfl, h⟩⟩
theorem ic_le : IntCmp .LtE Builtin.«int.__le__» "int.__le__" := ⟨PySem.F.slot_int_le, PySem.F.entry_int_le, PySem.F.args_int_le_2, fun a t l C dx => .of_wp fun prog w A R s h => by
  obtain ⟨hp, g, d, tk, os⟩ := s; obtain ⟨hl, h⟩ := h; wp_walk; exact ⟨_, rfl, h⟩⟩
theorem ic_gt : IntCmp .Gt Builtin.«int.__gt__» "int.__gt__" := ⟨PySem.F.slot_int_gt, PySem.F.entry_int_gt, PySem.F.args_int_gt_2, fun a t l C dx => .of_wp fun prog w A R s h => by
  obtain ⟨hp, g, d, tk, os⟩ := s; obtain ⟨hl, h⟩ := h; wp_walk; exact ⟨_, rfl, h⟩⟩
theorem ic_ge : IntCmp .GtE Builtin.«int.__ge__» "int.__ge__" := ⟨PySem.F.slot_int_ge, PySem.F.entry_int_ge, PySem.F.args_int_ge_2, fun a t l C dx => .of_wp fun prog w A R s h => by
  obtain ⟨hp, g, d, tk, os⟩ := s; obtain ⟨hl, h⟩ := h; wp_walk; exact ⟨_, rfl, h⟩⟩
section
variable {prog : Program} {w : World} {A : Around} {E : Value → Shared → Prop} {s : Shared} {K : Frag} {C L f : Addr} {h₀ : Heap} {m : Str → Option Value}
theorem int_cmp {op : CmpOp} {B : Builtin} {id : String} {b dx : Addr} {i : Int} {t : Tok} {od : Option Obj} {Q : Value → Shared → Prop} (ic : IntCmp op B id) (hu : A.units < cLine) (F : Fr h₀ L s.heap m) (X₀ : K.In h₀) (J : InstAt s.heap b (instObj C dx) C od)
    (hs : findIn K (.ref C) (cmpInfo op).2.2 = some (some (.ref f))) (hf : isFn K (.ref f) = true) (hsub : subIn K (.ref C) (.type "int") = some false)
    (h : wpAny (model prog w) A (call (.ref f) [.ref b, .int i t]) (PySem.W.CmpBack Q) E s) (hop : op ≠ .Is ∧ op ≠ .IsNot) : wpAny (model prog w) A (richCompare op (.int i t) (.ref b)) Q E s := by
  have X := X₀.keeps F.keep
  have hb := J.at_
  have T1 : s.TypeIs (.int i t) "int" := typeIs_int s i t
  have two : wpAny (model prog w) A (tryCompare (.ref b) (cmpInfo op).2.2 (.int i t)) (fun r s' => ∃ v, r = some v ∧ Q v s') E s := by
    unfold tryCompare
    refine wpAny_bind (ifBound_K X J hs hf (wpAny_mono h (fun v s' hv => ?_) fun _ _ e => e))
    cases v <;> first | exact hv.elim | exact wpAny_pure ⟨_, rfl, hv⟩
  have dec : ∀ {Q : Option Value → Shared → Prop}, Q none s → wpAny (model prog w) A (tryCompare (.int i t) (cmpInfo op).2.1 (.ref b)) Q E s := fun {Q} q =>
    wpAny_tryCompare_declines T1 ic.slot (call_meets ic.slot T1 ic.entry (ic.args _ _) (ic.no i t b C dx) ⟨hb, rfl, q⟩)
  have L1 : Looks (model prog w) s.heap (typeOf (.int i t)) (.type "int") := Looks.of_pure rfl
  have L2 : Looks (model prog w) s.heap (typeOf (.ref b)) (.ref C) := J.type
  have L5 : Looks (model prog w) s.heap (isSubtype (.ref C) (.type "int")) false := looks_subIn X hsub
  have hne : (Value.type "int" != Value.ref C) = true := by rfl
  have h1 : oneThing? op (.int i t) (.ref b) = none := by rfl
  unfold richCompare
  refine wpAny_holding (wpAny_bind (wpAny_cRoomFor hu ?_))
  simp only [h1]
  refine wpAny_bind (L1.here (wpAny_bind (L2.here ?_)))
  simp only [hne, if_true]
  refine wpAny_bind (L5.here ?_)
  simp only [Bool.false_eq_true, if_false]
  refine wpAny_bind (dec ?_)
  simp only [Bool.not_false, if_true]
  refine wpAny_bind (wpAny_mono two (fun r s' z => ?_) fun _ _ e => e)
  obtain ⟨v, rfl, hq⟩ := z
  exact wpAny_pure hq
end
end IC
end Gm
namespace Gm
open PySem PySem.Spec PyProof.Rows L2
section
variable {K : PySem.W.Frag} {L : Lw} {W W' : Wd}
end
theorem tidy_pure {st st' : Store} {d : D} (hk : Kept st st') (hd : noRef st.length d = true) : tidy st (.ok d st') = .ok d (st'.take st.length) := by
  unfold tidy; simp only; rw [if_pos hk, if_pos hd]
theorem tidy_err {st st' : Store} {x : Exn} (hk : Kept st st') (hd : noRefs st.length x.ds = true) : tidy st (.err x st') = .err x (st'.take st.length) := by
  unfold tidy; simp only; rw [if_pos ⟨hk, hd⟩]
theorem tidy_same {st e : Store} {d : D} (hd : noRef st.length d = true) : tidy st (.ok d (st ++ e)) = .ok d st := by
  rw [tidy_pure (Kept.rfl' st e) hd, List.take_left]
theorem tidy_same0 {st : Store} {d : D} (hd : noRef st.length d = true) : tidy st (.ok d st) = .ok d st := by
  have := tidy_same (e := []) hd
  rwa [List.append_nil] at this
theorem tidy_set {st e : Store} {d : D} {n : Nat} {c : Cell} (hc : noRefC st.length c = true) (hd : noRef st.length d = true) : tidy st (.ok d (st.set n c ++ e)) = .ok d (st.set n c) := by
  rw [tidy_pure (Kept.set st n c e hc) hd, List.take_append_of_le_length (by rw [List.length_set]; exact Nat.le_refl _), List.take_of_length_le (by rw [List.length_set]; exact Nat.le_refl _)]
theorem tidy_set0 {st : Store} {d : D} {n : Nat} {c : Cell} (hc : noRefC st.length c = true) (hd : noRef st.length d = true) : tidy st (.ok d (st.set n c)) = .ok d (st.set n c) := by
  have := tidy_set (e := []) (n := n) hc hd
  rwa [List.append_nil] at this
section
variable {K : PySem.W.Frag} {L : Lw} {W W' : Wd} {st st' : Store} {H H' : Hp}
end
end Gm
namespace Gm
open PySem PySem.Spec PyProof.Rows L2
def sNo : Fs := fun _ _ => .stuck
def sNx : Fs := fun ρ st => .nx ρ st
def sBk : Fs := fun ρ st => .bk ρ st
def sCt : Fs := fun ρ st => .ct ρ st
@[simp] theorem SR.seq_nx (ρ : Ev) (st : Store) (b : Fs) : (SR.nx ρ st).seq b = b ρ st := rfl
@[simp] theorem SR.seq_rt (d : D) (st : Store) (b : Fs) : (SR.rt d st).seq b = .rt d st := rfl
@[simp] theorem SR.seq_bk (ρ : Ev) (st : Store) (b : Fs) : (SR.bk ρ st).seq b = .bk ρ st := rfl
@[simp] theorem SR.seq_ct (ρ : Ev) (st : Store) (b : Fs) : (SR.ct ρ st).seq b = .ct ρ st := rfl
@[simp] theorem SR.seq_err (x : Exn) (ρ : Ev) (st : Store) (b : Fs) : (SR.err x ρ st).seq b = .err x ρ st := rfl
@[simp] theorem SR.seq_stuck (b : Fs) : SR.stuck.seq b = .stuck := rfl
def sSeq (a b : Fs) : Fs := fun ρ st => (a ρ st).seq b
def sRet (f : Fe) : Fs := fun ρ st => (f ρ st).toS ρ fun d st => .rt d st
def sRetN : Fs := fun _ st => .rt .non st
def sIf (t : Ft) (a b : Fs) : Fs := fun ρ st => (t ρ st).toS ρ fun q st => if q then a ρ st else b ρ st
def sExpr (f : Fe) : Fs := fun ρ st => (f ρ st).toS ρ fun _ st => .nx ρ st
def sAsg (f : Fe) (g : Fg) : Fs := fun ρ st => (f ρ st).toS ρ fun d st => match g d ρ st with
  | .ok ρ' st' => .nx ρ' st'
  | _ => .stuck
def gNm (i : Nat) : Fg := fun d ρ st => .ok (ρ.set i (some d)) st
def gsNil : List D → Ev → Store → Res Ev := fun ds ρ st => match ds with | [] => .ok ρ st | _ => .stuck
def gsCons (g : Fg) (r : List D → Ev → Store → Res Ev) : List D → Ev → Store → Res Ev := fun ds ρ st => match ds with
  | d :: ds => (g d ρ st).bind fun ρ st => r ds ρ st
  | [] => .stuck
def gTp (r : List D → Ev → Store → Res Ev) : Fg := fun d ρ st => match d with
  | .tup ds => r ds ρ st
  | .ref n => match st[n]? with
    | some (.lst ds) => r ds ρ st
    | _ => .stuck
  | _ => .stuck
def sPar (i j : Nat) (r : Fa) : Fs := fun ρ st => (r ρ st).toS ρ fun ds st => match ds with
  | [d, e] => .nx ((ρ.set i (some d)).set j (some e)) st
  | _ => .stuck

section
variable {L : Lw} {X : Cx} {Wx : WX} {e : Expr} {f : Fe} {pos : Pos}
theorem rs_no {st : Stmt} : RS L X Wx st sNo := ⟨fun _ _ _ _ _ _ _ _ _ _ _ o => o.elim⟩
theorem rss_nil : RSs L X Wx [] sNx := ⟨fun _ _ σ H W sto ρ D I S E o => wpAny_execs_nil ⟨σ, H, I, o W H σ .rfl' S E⟩⟩
theorem rss_cons {st : Stmt} {rest : List Stmt} {a b : Fs} (h1 : RS L X Wx st a) (h2 : RSs L X Wx rest b) : RSs L X Wx (st :: rest) (sSeq a b) := by
  refine ⟨fun pins s σ H W sto ρ D I S E o => ?_⟩
  unfold sSeq at o
  have go : ∀ D', OutS X.K L Wx W D' (a ρ sto) → (∀ σ' H', D'.nx σ' H' → ∃ W' ρ' st', Sok X.K L W' st' H' ∧ EnR X.K L W' σ' ρ' ∧ OutS X.K L Wx W' D (b ρ' st')) → D'.rt = D.rt → D'.bk = D.bk → D'.ct = D.ct →
      wpAny (model X.prog X.w) X.A (execs (st :: rest) X.env) (SP X pins D) X.xe s := fun D' o' hn hr hb hc => by
    refine wpAny_execs_cons (thn (h1.run pins s σ H W sto ρ D' I S E o') fun fl s1 q => ?_)
    cases fl with
    | next =>
      obtain ⟨σ', H', I', q⟩ := q
      obtain ⟨W', ρ', st', S', E', o2⟩ := hn σ' H' q
      exact h2.run pins s1 σ' H' W' st' ρ' D I' S' E' o2
    | ret v => obtain ⟨v', σ', H', I', r', q⟩ := q; exact ⟨v', σ', H', I', r', by rw [← hr]; exact q⟩
    | brk => obtain ⟨σ', H', I', q⟩ := q; exact ⟨σ', H', I', by rw [← hb]; exact q⟩
    | cont => obtain ⟨σ', H', I', q⟩ := q; exact ⟨σ', H', I', by rw [← hc]; exact q⟩
  cases q : a ρ sto with
  | nx ρ' st' =>
    rw [q] at o
    refine go { D with nx := fun σ' H' => ∃ W', W.le W' ∧ Sok X.K L W' st' H' ∧ EnR X.K L W' σ' ρ' } (by rw [q]; exact fun W' H' σ' e' S' E' => ⟨W', e', S', E'⟩) (fun σ' H' ⟨W', e', S', E'⟩ => ⟨W', ρ', st', S', E', OutS.mono e' o⟩) rfl rfl rfl
  | rt d st' => rw [q] at o; exact go { D with nx := fun _ _ => False } (by rw [q]; exact o) (fun _ _ z => z.elim) rfl rfl rfl
  | bk d st' => rw [q] at o; exact go { D with nx := fun _ _ => False } (by rw [q]; exact o) (fun _ _ z => z.elim) rfl rfl rfl
  | ct d st' => rw [q] at o; exact go { D with nx := fun _ _ => False } (by rw [q]; exact o) (fun _ _ z => z.elim) rfl rfl rfl
  | err x d st' => rw [q] at o; exact go { D with nx := fun _ _ => False } (by rw [q]; exact o) (fun _ _ z => z.elim) rfl rfl rfl
  | stuck => rw [q] at o; exact o.elim
theorem rss_one {st : Stmt} {a : Fs} (h1 : RS L X Wx st a) : RSs L X Wx [st] a := by
  have h := rss_cons h1 rss_nil
  refine ⟨fun pins s σ H W sto ρ D I S E o => h.run pins s σ H W sto ρ D I S E ?_⟩
  unfold sSeq
  revert o
  cases a ρ sto with
  | nx ρ' st' => exact id
  | _ => exact id
theorem rs_break : RS L X Wx (.Break pos) sBk := ⟨fun _ _ σ H W sto ρ D I S E o => wpAny_Break ⟨σ, H, I, o W H σ .rfl' S E⟩⟩
theorem rs_ret (he : RE L X Wx e f) : RS L X Wx (.Return (some e) pos) (sRet f) :=
  ⟨fun pins s σ H W sto ρ D I S E o => wpAny_Return_some (he.bindS I S E o fun d st1 W1 H1 v u s1 e1 I1 S1 R1 r1 o1 => ⟨v, σ, H1, I1, r1, o1 W1 H1 v .rfl' S1 R1⟩)⟩
theorem rs_if {c : Expr} {a b : List Stmt} {t : Ft} {fa fb : Fs} (hc : RT L X Wx c t) (ha : RSs L X Wx a fa) (hb : RSs L X Wx b fb) : RS L X Wx (.If c a b pos) (sIf t fa fb) :=
  ⟨fun pins s σ H W sto ρ D I S E o => wpAny_If (hc.bindS I S E o fun q st1 W1 H1 s1 e1 I1 S1 o1 => by
    cases q with
    | true => exact ha.run pins s1 σ H1 W1 st1 ρ D I1 S1 (E.mono e1) o1
    | false => exact hb.run pins s1 σ H1 W1 st1 ρ D I1 S1 (E.mono e1) o1)⟩
theorem rg_name {i : Nat} {x : Str} (p : PG X (.Name x pos) (gName i)) : RG L X (.Name x pos) (gNm i) [i] := by
  refine ⟨fun pins s σ H W st ρ d v u ρ' st' I S E R r o => ?_⟩
  unfold gNm at o
  cases o
  refine thn (p.run pins s σ H v u (fun σ' H' => σ' = σ.set i (some v) ∧ H' = H) I r ⟨rfl, rfl⟩) fun _ s' ⟨σ', H', I', e1, e2⟩ => ?_
  subst e1; subst e2
  exact ⟨W, _, _, .rfl', I', S, E.set R, by rw [List.length_set], fun j hj => List.getElem?_set_ne (fun e => hj (by simp [e]))⟩
theorem rgs_nil : RGs L X [] gsNil [] := by
  refine ⟨fun pins s σ H W st ρ ds vs us ρ' st' I S E R r o => ?_, fun ds ρ st ρ' st' o => ?_⟩
  · unfold gsNil at o
    cases ds with
    | nil =>
      cases o
      rw [Rls.nil.mp R] at r
      cases r
      exact assignInOrder_nil ⟨W, σ, H, .rfl', I, S, E, .rfl'⟩
    | cons _ _ => cases o
  · unfold gsNil at o
    cases ds with
    | nil => rfl
    | cons _ _ => cases o
theorem rgs_cons {t : Expr} {ts : List Expr} {g : Fg} {r : List D → Ev → Store → Res Ev} {s1 s2 : List Nat} (h1 : RG L X t g s1) (h2 : RGs L X ts r s2)
    (hs : (assignEach (t :: ts) X.env).map (·.2) = assign t X.env :: (assignEach ts X.env).map (·.2) := by rfl) : RGs L X (t :: ts) (gsCons g r) (s1 ++ s2) := by
  refine ⟨fun pins s σ H W st ρ ds vs us ρ' st' I S E R rr o => ?_, fun ds ρ st ρ' st' o => ?_⟩
  · unfold gsCons at o
    cases ds with
    | nil => cases o
    | cons d ds =>
      obtain ⟨v, vs', rfl, R1, R2⟩ := Rls.cons.mp R
      cases rr with
      | cons r1 r2 =>
        rw [hs]
        dsimp only at o
        cases q : g d ρ st with
        | ok ρ1 st1 =>
          rw [q, Res.bind_ok] at o
          refine assignInOrder_cons (thn (h1.run pins s σ H W st ρ d v _ ρ1 st1 I S E R1 r1 q) fun _ s1 ⟨W1, σ1, H1, e1, I1, S1, E1, F1⟩ => ?_)
          exact thn (h2.run pins s1 σ1 H1 W1 st1 ρ1 ds vs' _ ρ' st' I1 S1 E1 (R2.mono e1) r2 o) fun _ s2 ⟨W2, σ2, H2, e2, I2, S2, E2, F2⟩ => ⟨W2, σ2, H2, e1.trans e2, I2, S2, E2, F1.trans F2⟩
        | err x st1 => rw [q] at o; cases o
        | stuck => rw [q] at o; cases o
  · unfold gsCons at o
    cases ds with
    | nil => cases o
    | cons d ds =>
      dsimp only at o
      cases q : g d ρ st with
      | ok ρ1 st1 => rw [q, Res.bind_ok] at o; rw [List.length_cons, List.length_cons, h2.len _ _ _ _ _ o]
      | err x st1 => rw [q] at o; cases o
      | stuck => rw [q] at o; cases o
theorem assign_Tuple_list {prog : Program} {w : World} {A : Around} {E : Value → Shared → Prop} {s : Shared} {env : Env} {elts : List Expr} {x1} {pos : Pos} {l : Addr} {items : Array Value} {Q : Unit → Shared → Prop} (hh : A.handled = none) (hl : s.heap.IsList l items)
    (hn : (assignEach elts env).length = items.size) (hstar : (assignEach elts env).findIdx? (·.1) = none)
    (h : ∀ h', Heap.ExtBut s.heap.objs.size s.heap h' → wpAny (model prog w) A (assignInOrder ((assignEach elts env).map (·.2)) items.toList) Q E { s with heap := h' }) :
    wpAny (model prog w) A (assign (.Tuple elts x1 pos) env (.ref l)) Q E s := by
  rw [PyProof.Rows.assign_Tuple]
  refine wpAny_bind (wpAny_standAt ?_)
  unfold unpack
  rw [hn, hstar]
  exact wpAny_bind (wpAny_holding (PySem.W.kun_itemsOf hh hl h))
theorem rg_tup {es : List Expr} {k : Nat} {r : List D → Ev → Store → Res Ev} {ts : List Nat} (hc : X.calm = true) (h : RGs L X es r ts)
    (hn : (assignEach es X.env).length = es.length := by rfl) (hst : (assignEach es X.env).findIdx? (·.1) = none := by rfl) : RG L X (.Tuple es k pos) (gTp r) ts := by
  refine ⟨fun pins s σ H W st ρ d v u ρ' st' I S E R rr o => ?_⟩
  unfold gTp at o
  cases d with
  | tup ds =>
    dsimp only at o
    obtain ⟨a, vs, rfl, h1, h2⟩ := Rl.tup.mp R
    cases rr
    obtain ⟨its, rv, ht, hz⟩ := I.tuple (SqT_mono S.fz h1)
    have hl := h.len _ _ _ _ _ o
    refine assign_Tuple_tuple (I.ok.hd hc) ht (by simp only [List.size_toArray]; rw [hn, ← hl, h2.length, rv.length]) hst fun h' hx => ?_
    have I1 : Inv X pins σ H { s with heap := h' } := I.kept (t' := s.toks) fun b o e => hx b o (Nat.ne_of_lt (Heap.lt_size e)) e
    exact h.run pins _ σ H W st ρ ds vs _ ρ' st' I1 S E h2 (by simpa using rv) o
  | ref n =>
    dsimp only at o
    obtain ⟨a, rfl, h1⟩ := Rl.ref.mp R
    cases rr
    split at o
    · rename_i ds hn2
      obtain ⟨vs, q1, h2⟩ := S.cell n _ a hn2 h1
      obtain ⟨z, its, n', rv, hz, e⟩ := I.lstM q1
      have hl := h.len _ _ _ _ _ o
      refine assign_Tuple_list (I.ok.hd hc) (items := its.toArray) ⟨_, e, rfl, _, rfl⟩ (by simp only [List.size_toArray]; rw [hn, ← hl, h2.length, rv.length]) hst fun h' hx => ?_
      have I1 : Inv X pins σ H { s with heap := h' } := I.kept (t' := s.toks) fun b o e => hx b o (Nat.ne_of_lt (Heap.lt_size e)) e
      exact h.run pins _ σ H W st ρ ds vs _ ρ' st' I1 S E h2 (by simpa using rv) o
    · cases o
  | _ => cases o
theorem rs_asg {tg : Expr} {g : Fg} {ts : List Nat} (he : RE L X Wx e f) (hg : RG L X tg g ts) (hs : swapsWithSole [tg] e pos.line X.env = pure false := by rfl) (hw : swappedStores [tg] e X.env = pure none := by rfl)
    (h1 : (assignEach [tg] X.env).map (·.2) = [assign tg X.env] := by rfl) : RS L X Wx (.Assign [tg] e pos) (sAsg f g) := by
  refine ⟨fun pins s σ H W sto ρ D I S E o => wpAny_Assign_stores (he.bindS I S E o fun d st1 W1 H1 v u s1 e1 I1 S1 R1 r1 o1 => ?_) hs hw⟩
  rw [h1]
  cases q : g d ρ st1 with
  | ok ρ' st' =>
    rw [q] at o1
    exact thn (hg.run pins s1 σ H1 W1 st1 ρ d v u ρ' st' I1 S1 (E.mono e1) R1 r1 q) fun _ s2 ⟨W2, σ2, H2, e2, I2, S2, E2, _⟩ => ⟨σ2, H2, I2, o1 W2 H2 σ2 e2 S2 E2⟩
  | err x st' => rw [q] at o1; exact o1.elim
  | stuck => rw [q] at o1; exact o1.elim
theorem rs_set {i : Nat} {x : Str} {pos' : Pos} (hN : X.N.Nodup) (hi : X.N[i]? = some x) (hx : Loc X.env.scope x) (he : RE L X Wx e f) (hs : swapsWith e (some (.Name x pos')) pos.line X.env = pure false := by rfl) (hf : X.fn x = true ∨ X.env.scope.names.lookup x = some .local := by first | exact .inl rfl | exact .inr rfl | assumption) :
    RS L X Wx (.Assign [.Name x pos'] e pos) (sAsg f (gNm i)) := by
  refine ⟨fun pins s σ H W sto ρ D I S E o => wpAny_Assign_Name (he.bindS I S E o fun d st1 W1 H1 v u s1 e1 I1 S1 R1 r1 o1 => ?_) hs⟩
  exact store_ok I1 hN hi hx r1 (fun s2 I2 => ⟨_, H1, I2, o1 W1 H1 _ .rfl' S1 ((E.mono e1).set R1)⟩) hf
theorem rs_par {i j : Nat} {x y : Str} {a b : Expr} {r : Fa} {px py pt : Pos} {kt k2 : _} {pt2 : Pos} (hc : X.calm = true) (hN : X.N.Nodup) (hi : X.N[i]? = some x) (hj : X.N[j]? = some y) (hij : i ≠ j)
    (hx : X.env.scope.names.lookup x = some .local) (hy : X.env.scope.names.lookup y = some .local) (ha : RA L X Wx [a, b] r)
    (hw : swappedStores [.Tuple [.Name x px, .Name y py] kt pt] (.Tuple [a, b] k2 pt2) X.env = pure (some [x, y]) := by rfl)
    (hs : swapsWithSole [.Tuple [.Name x px, .Name y py] kt pt] (.Tuple [a, b] k2 pt2) pos.line X.env = pure false := by rfl) :
    RS L X Wx (.Assign [.Tuple [.Name x px, .Name y py] kt pt] (.Tuple [a, b] k2 pt2) pos) (sPar i j r) := by
  have hlen := ha.len
  refine ⟨fun pins s σ H W sto ρ D I S E o => ?_⟩
  cases q : r ρ sto with
  | ok ds st1 =>
    have hl := hlen _ _ _ _ q
    unfold sPar at o
    rw [q, Res.toS_ok] at o
    match ds, hl with
    | [d1, d2], _ =>
      dsimp only at o
      have p : PA X [a, b] (fun σ' H' Q => σ' = σ ∧ H' = H ∧ ∀ W1 H1 vs, W.le W1 → Sok X.K L W1 st1 H1 → Rls X.K L W1 [d1, d2] vs → Q vs H1) :=
        ⟨fun pos pins' s' σ' H' Q I' h' => by
          obtain ⟨e1, e2, h'⟩ := h'
          subst e1; subst e2
          refine ha.run pos pins' s' σ' H' W sto ρ Q I' S E ?_
          rw [q]
          exact fun W' H' e' S' vs R' => h' W' H' vs e' S' R'⟩
      refine (ps_par hc hN hi hj hij hx hy p hw hs).run pins s σ H D I ⟨rfl, rfl, fun W1 H1 vs e1 S1 R1 => ?_⟩
      obtain ⟨v, vs1, rfl, Ra, R1⟩ := Rls.cons.mp R1
      obtain ⟨w, vs2, rfl, Rb, R1⟩ := Rls.cons.mp R1
      rw [Rls.nil.mp R1]
      exact ⟨v, w, rfl, o W1 H1 _ e1 S1 (((E.mono e1).set Ra).set Rb)⟩
  | err x st1 =>
    unfold sPar at o
    rw [q, Res.toS_err] at o
    have p : PA X [a, b] (fun σ' H' Q => σ' = σ ∧ H' = H) :=
      ⟨fun pos pins' s' σ' H' Q I' h' => by
        obtain ⟨e1, e2⟩ := h'
        subst e1; subst e2
        refine thn (ha.run pos pins' s' σ' H' W sto ρ (fun _ _ => False) I' S E ?_) fun _ _ ⟨_, _, _, _, z⟩ => z.elim
        rw [q]
        exact fun W' H' cls dx e' S' R' => o W' H' σ' cls dx e' S' (E.mono e') R'⟩
    exact (ps_par hc hN hi hj hij hx hy p hw hs).run pins s σ H D I ⟨rfl, rfl⟩
  | stuck => unfold sPar at o; rw [q, Res.toS_stuck] at o; exact o.elim
end
section
variable {L : Lw} {X : Cx} {Wx : WX} {e : Expr} {f : Fe} {pos : Pos}
end
end Gm
namespace Gm
open PySem PySem.Spec PyProof.Rows L2
def startE (n : Nat) (ds : List D) : Ev := ds.map some ++ List.replicate (n - ds.length) none
def runB (n : Nat) (b : Fs) (ds : List D) (st : Store) : Res D := match b (startE n ds) st with
  | .nx _ st => .ok .non st
  | .rt d st => .ok d st
  | .err x _ st => .err x st
  | _ => .stuck
noncomputable def fnD (n : Nat) (b : Fs) : List D → Store → Res D := fun ds st => tidy st (runB n b ds st)
theorem start_ok {K : PySem.W.Frag} {L : Lw} {W : Wd} : ∀ {ds : List D} {vs : List V} (n : Nat), Rls K L W ds vs → EnR K L W (vs.map some ++ List.replicate (n - vs.length) none) (startE n ds) := by
  intro ds vs n h
  refine ⟨?_, fun i d e => ?_⟩
  · unfold startE
    rw [List.length_append, List.length_append, List.length_map, List.length_map, List.length_replicate, List.length_replicate, h.length]
  · unfold startE at e
    by_cases hi : i < ds.length
    · rw [List.getElem?_append_left (by rw [List.length_map]; exact hi), List.getElem?_map] at e
      cases q : ds[i]? with
      | none => rw [q] at e; cases e
      | some d' =>
        rw [q] at e
        cases e
        obtain ⟨v, h1, h2⟩ := h.get q
        refine ⟨v, ?_, h2⟩
        rw [List.getElem?_append_left (by rw [List.length_map, ← h.length]; exact hi), List.getElem?_map, h1]
        rfl
    · rw [List.getElem?_append_right (by rw [List.length_map]; omega)] at e
      rw [List.getElem?_replicate] at e
      split at e <;> cases e
section
variable {P : Program} {w : World} {K : PySem.W.Frag} {mg : Str → Option Value} {base : Heap} {L : Lw}
theorem fn_rule {x qual : Str} {st : Stmt} {f : Addr} {fd : FuncData} {N ps : List Str} {k : Nat} {c : Fn} {b : Fs} (F : FunG K x qual st f fd) (S : FnScope N ps (defScope st)) (fo : FOk L P w K mg base k c)
    (hc : ∀ (cdv : Value) (A : Around) (outer : List Env) (s : Shared) (H : Hp) (E : XK), (cxOf (L2.CX P w) P w K mg base N qual (defScope st) f cdv A outer s H E).calm = true)
    (hbody : ∀ (X : Cx) (Wx : WX), (∃ (cdv : Value) (A : Around) (outer : List Env) (s : Shared) (H : Hp) (E : XK), X = cxOf (L2.CX P w) P w K mg base N qual (defScope st) f cdv A outer s H E) → Gd L X Wx k c → RSs L X Wx (defBody st) b) :
    FnOk P w K mg base (L2.CX P w) (k + 13) f fd ps (spM K L ps.length (fnD N.length b)) := by
  obtain ⟨oc, od, dV, kV, doc, pm, an, cdv, ct, osl, rfl, lk, hcd⟩ := F.ex
  refine fn_of lk hcd S (fun vs H Q E h => h.1) fun A outer s H vs Q E hr hsp => ?_
  obtain ⟨hl, ds, W, sto, R, So, o⟩ := hsp
  let X := cxOf (L2.CX P w) P w K mg base N qual (defScope st) f cdv A outer s H E
  have G : Gd L X (fun cls d _ H => E cls d H) k c := ⟨fo, hr.mono (by omega), takes_of rfl rfl rfl rfl, hc cdv A outer s H E, passes_of rfl, S.nd⟩
  have hb := hbody X _ ⟨cdv, A, outer, s, H, E, rfl⟩ G
  refine ⟨fun D σ H' => σ = L2.start N vs ∧ H' = H ∧ OutS K L (fun cls d _ H => E cls d H) W D (b (startE N.length ds) sto), ⟨fun pins s' σ H' D I h => ?_⟩, rfl, rfl, ?_⟩
  · obtain ⟨rfl, rfl, h⟩ := h
    exact hb.run pins s' _ _ W sto _ D I So (by unfold L2.start; exact start_ok _ R) h
  · have o2 := tidy_ok (K := K) (L := L) (W := W) (σ := []) So o
    unfold runB at o2
    cases q : b (startE N.length ds) sto with
    | nx ρ st' => rw [q] at o2; exact fun W' H' σ' e' S' E' => o2 W' H' e' S' .non (Rl.non.mpr rfl)
    | rt d st' => rw [q] at o2; exact fun W' H' v e' S' R' => o2 W' H' e' S' v R'
    | bk ρ st' => rw [q] at o2; exact o2.elim
    | ct ρ st' => rw [q] at o2; exact o2.elim
    | err x ρ st' => rw [q] at o2; exact fun W' H' σ' cls dx e' S' E' R' => o2 W' H' cls dx e' S' R'
    | stuck => rw [q] at o2; exact o2.elim
end

section
variable {L : Lw} {X : Cx} {Wx : WX} {k : Nat} {c : Fn} {e o fe : Expr} {es : List Expr} {f : Fe} {r : Fa} {x m : Str} {p pos apos : Pos}
def xCall (T : Ls) (c : Fn) (i : Nat) (r : Fa) : Fe := fun ρ st => (r ρ st).bind fun ds st => callD T c i ds st
theorem re_call {i : Nat} (G : Gd L X Wx k c) (hf : L.isF i = true) (hg : Gl X x) (hm : X.mg x = some (.ref (L.fad i))) (ha : RA L X Wx (e :: es) r) (hdb : (x == ("__debug__" : Str)) = false := by decide)
    (he : starEach (e :: es) X.env = (false, eval e X.env) :: starEach es X.env := by rfl) (hpl : (backTo pos (starEach es X.env)).any (·.1) = false := by rfl) :
    RE L X Wx (.Call (.Name x p) (e :: es) [] pos) (xCall L.toLs c i r) := by
  refine ⟨fun pins s σ H W st ρ Q I S E o => ?_⟩
  refine wpAny_Call_Name_kw (ld_glob I hg hm ?_ hdb)
  refine PySem.W.callWith_K (h₀ := X.base) I.ok.mod.kin (G.fo.kp i hf) (ha.bind I S E o fun ds st1 W1 H1 vs us s1 hl e1 I1 S1 R1 r1 o1 => ⟨I1.kIn, ?_⟩) he hpl
  exact G.call hf I1 S1 R1 r1 o1
noncomputable def xMk (T : Ls) (c : Fn) (i : Nat) (r : Fa) : Fe := fun ρ st => (r ρ st).bind fun ds st => mkD T c i ds st
theorem re_mk {i f : Nat} (G : Gd L X Wx k c) (hf : L.meth i 37 = some f) (hg : Gl X x) (hm : X.mg x = some (.ref (L.cad i))) (ha : RA L X Wx (e :: es) r) (hdb : (x == ("__debug__" : Str)) = false := by decide)
    (he : starEach (e :: es) X.env = (false, eval e X.env) :: starEach es X.env := by rfl) (hpl : (backTo pos (starEach es X.env)).any (·.1) = false := by rfl) :
    RE L X Wx (.Call (.Name x p) (e :: es) [] pos) (xMk L.toLs c i r) := by
  refine ⟨fun pins s σ H W st ρ Q I S E o => ?_⟩
  refine wpAny_Call_Name_kw (ld_glob I hg hm ?_ hdb)
  refine PySem.W.callWith_K (h₀ := X.base) I.ok.mod.kin (G.fo.mi i f hf).kp (ha.bind I S E o fun ds st1 W1 H1 vs us s1 hl e1 I1 S1 R1 r1 o1 => ⟨I1.kIn, ?_⟩) he hpl
  exact G.make I1 S1 R1 r1 o1
def lookF (g : Nat) (fs : List (Nat × D)) : Option D := match fs with
  | [] => none
  | (h, d) :: r => if h = g then some d else lookF g r
def putC (g : Nat) (d : D) (fs : List (Nat × D)) : List (Nat × D) := match fs with
  | [] => [(g, d)]
  | (h, e) :: r => if h = g then (h, d) :: r else (h, e) :: putC g d r
def fldD (T : Ls) (c : Fn) (g : Nat) (d : D) (st : Store) : Res D := match d with
  | .obj i ds => if T.isC i = true ∧ g ∈ T.atn i then match lookF g ((T.lay i).zip ds) with | some d => .ok d st | none => .stuck else match T.prop i g with
    | some f => match callD T c f [d] st with
      | .ok d st => .ok d st
      | _ => .stuck
    | none => .stuck
  | .ref n => match st[n]? with
    | some (.ins i fs) => if T.isC i = true ∧ g ∈ T.atn i ∧ ∀ p ∈ fs, p.1 ∈ T.atn i then match lookF g fs with | some d => .ok d st | none => .stuck else .stuck
    | _ => .stuck
  | _ => .stuck
theorem lookF_at {K : PySem.W.Frag} {W : Wd} {nm : Nat → Str} {g : Nat} : ∀ {fs : List (Nat × D)} {vs : List V} {d : D}, (∀ p ∈ fs, nm p.1 = nm g → p.1 = g) → Rls K L W (fs.map (·.2)) vs → lookF g fs = some d → ∃ v, List.lookup (nm g) ((fs.map fun p => nm p.1).zip vs) = some v ∧ Rl K L W d v
  | [], vs, d, _, _, h => by cases h
  | (a, z) :: fs, vs, d, hi, R, h => by
    obtain ⟨v, vs', rfl, R1, R2⟩ := Rls.cons.mp R
    unfold lookF at h
    by_cases ha : a = g
    · rw [if_pos ha] at h
      cases h
      subst ha
      exact ⟨v, by simp [List.lookup], R1⟩
    · rw [if_neg ha] at h
      obtain ⟨v', h1, h2⟩ := lookF_at (nm := nm) (fun p hp => hi p (List.mem_cons_of_mem _ hp)) R2 h
      refine ⟨v', ?_, h2⟩
      have hb : (nm g == nm a) = false := beq_eq_false_iff_ne.mpr fun q => ha (hi (a, z) (List.mem_cons_self ..) q.symm)
      rw [List.map_cons, List.zip_cons_cons, List.lookup_cons, hb]
      exact h1
theorem zip_parts {α β : Type} : ∀ {l : List α} {m : List β}, l.length = m.length → (l.zip m).map (·.1) = l ∧ (l.zip m).map (·.2) = m
  | [], [], _ => ⟨rfl, rfl⟩
  | a :: l, b :: m, h => by
    obtain ⟨h1, h2⟩ := zip_parts (l := l) (m := m) (by simpa using h)
    exact ⟨by rw [List.zip_cons_cons, List.map_cons, h1], by rw [List.zip_cons_cons, List.map_cons, h2]⟩
theorem Gd.getAttr (G : Gd L X Wx k c) {b : Bool} {g : Nat} {pins : List (Addr × Obj)} {s : Shared} {σ : St} {H : Hp} {W : Wd} {st : Store} {d : D} {v : V} {u : Value} {Q : VK} (I : Inv X pins σ H s) (S : Sok X.K L W st H)
    (R : Rl X.K L W d v) (r : RelV v u) (o : Out X.K L Wx W σ (okE X.K L Q) (fldD L.toLs c g d st)) :
    wpAny (model X.prog X.w) X.A (PySem.getAttr u (L.nm g) b) (EP X pins σ Q) X.xe s := by
  cases d with
  | obj i ds =>
    obtain ⟨a, dx, vs, rfl, h1, h2, h3⟩ := Rl.obj.mp R
    obtain rfl : u = Value.ref a := r
    unfold fldD at o
    dsimp only at o
    split at o
    · rename_i hc
      split at o
      · rename_i d hd
        obtain ⟨z1, z2⟩ := zip_parts h2
        obtain ⟨v, h4, h5⟩ := lookF_at (K := X.K) (W := W) (nm := L.nm) (fs := (L.lay i).zip ds) (vs := vs) (fun p hp q => G.fo.li i _ _ hc.1 (G.fo.la i _ (List.of_mem_zip hp).1) hc.2 q) (by rw [z2]; exact h3) hd
        have e1 : ((L.lay i).zip ds).map (fun p => L.nm p.1) = (L.lay i).map L.nm := by
          rw [show (fun p : Nat × D => L.nm p.1) = L.nm ∘ (·.1) from rfl, ← List.map_map, z1]
        rw [e1] at h4
        exact getattr_ok I (S.fz _ _ h1) (G.fo.cl i hc.1).cls (G.fo.ly i g hc.1 hc.2) h4 fun u' s' I' r' => ⟨v, H, I', r', o W H .rfl' S v h5⟩
      · exact o.elim
    · split at o
      · rename_i f hp
        obtain ⟨hC, hF, p, hP⟩ := G.fo.pr i g f hp
        have hn : callD L.toLs c f [.obj i ds] st ≠ .stuck := fun z => by rw [z] at o; exact o
        obtain ⟨t, ht, hl, ec⟩ := callD_some hn
        obtain ⟨dvs, dsV, hb, hd, hT⟩ := G.fo.bt f hF t ht
        rw [ec] at o
        refine getprop_ok (CX := L2.CX X.prog X.w) (E := fun _ _ _ => False) I (S.fz _ _ h1) (G.fo.cl i hC).cls hP (G.fo.fn f hF) (G.room.mono (by omega)) hb hd (fun _ _ _ _ _ _ _ ⟨_, _, _, _, _, _, _, _, _, _, _, _, z⟩ => z) ?_
        have R2 : Rls X.K L W ([D.obj i ds] ++ t) (V.ref a :: dvs) := Rls.mk R (hT W)
        refine ⟨by rw [← R2.length, List.length_append]; exact hl, _, W, st, R2, S, ?_⟩
        revert o
        cases c f ([D.obj i ds] ++ t) st with
        | ok d st' => exact id
        | err x st' => exact fun z => z.elim
        | stuck => exact id
      · exact o.elim
  | ref n =>
    obtain ⟨a, rfl, h1⟩ := Rl.ref.mp R
    obtain rfl : u = Value.ref a := r
    unfold fldD at o
    dsimp only at o
    split at o
    · rename_i i fs hn
      split at o
      · rename_i hc
        split at o
        · rename_i d hd
          obtain ⟨dx, vs, h2, h3⟩ := S.cell n _ a hn h1
          obtain ⟨v, h4, h5⟩ := lookF_at (K := X.K) (W := W) (nm := L.nm) (fun p hp q => G.fo.li i _ _ hc.1 (hc.2.2 p hp) hc.2.1 q) h3 hd
          exact getattr_ok I h2 (G.fo.cl i hc.1).cls (G.fo.ly i g hc.1 hc.2.1) h4 fun u' s' I' r' => ⟨v, H, I', r', o W H .rfl' S v h5⟩
        · exact o.elim
      · exact o.elim
    · exact o.elim
  | _ => exact o.elim
def xFld (T : Ls) (c : Fn) (g : Nat) (f : Fe) : Fe := fun ρ st => (f ρ st).bind fun d st => fldD T c g d st
theorem re_fld {g : Nat} (G : Gd L X Wx k c) (he : RE L X Wx e f) (hn : x = L.nm g := by rfl) (hab : attributeBase e x X.env (eval e X.env) = eval e X.env := by rfl) : RE L X Wx (.Attribute e x pos) (xFld L.toLs c g f) := by
  refine ⟨fun pins s σ H W st ρ Q I S E o => ?_⟩
  refine attr_of hab (he.bind I S E o fun d st1 W1 H1 v u s1 e1 I1 S1 R1 r1 o1 => ?_)
  rw [hn]
  exact G.getAttr I1 S1 R1 r1 o1
def whoD (T : Ls) (m : Nat) (d : D) (st : Store) : Option Nat := match d with
  | .obj i _ => T.meth i m
  | .ref n => match st[n]? with
    | some (.ins i fs) => if ∀ p ∈ fs, p.1 ∈ T.atn i then T.meth i m else none
    | _ => none
  | _ => none
def xMethW (T : Ls) (c : Fn) (m : Nat) (f : Fe) (r : Fa) : Fe := fun ρ st => (f ρ st).bind fun d st => match whoD T m d st with
  | some g => (r ρ st).bind fun ds st => callD T c g (d :: ds) st
  | none => .stuck
theorem lookup_no {vs : List V} {x : Str} : ∀ {l : List Str}, (∀ y ∈ l, y ≠ x) → List.lookup x (l.zip vs) = none
  | [], _ => rfl
  | y :: l, h => by
    cases vs with
    | nil => rfl
    | cons v vs =>
      have hb : (x == y) = false := beq_eq_false_iff_ne.mpr fun q => h y (List.mem_cons_self ..) q.symm
      rw [List.zip_cons_cons, List.lookup_cons, hb]
      exact lookup_no fun z hz => h z (List.mem_cons_of_mem _ hz)
theorem Gd.who (G : Gd L X Wx k c) {m f : Nat} {pins : List (Addr × Obj)} {s : Shared} {σ : St} {H : Hp} {W : Wd} {st : Store} {d : D} {v : V} {pl : Sem Bool} {Q : Value × List Value → Shared → Prop} (I : Inv X pins σ H s) (S : Sok X.K L W st H)
    (R : Rl X.K L W d v) (h : whoD L.toLs m d st = some f) (q : ∀ a, v = .ref a → L.isF f = true → Q (.ref (L.fad f), [.ref a]) s) :
    ∃ a, v = .ref a ∧ wpAny (model X.prog X.w) X.A (PySem.getMethod (.ref a) (L.nm m) pl) Q X.xe s := by
  cases d with
  | obj i ds =>
    obtain ⟨a, dx, vs, rfl, h1, h2, h3⟩ := Rl.obj.mp R
    have h' : L.meth i m = some f := h
    obtain ⟨hC, hF, hM⟩ := G.fo.mt i m f h'
    refine ⟨a, rfl, getmeth_ok I (S.fz _ _ h1) (G.fo.cl i hC).cls hM (lookup_no fun y hy => ?_) (q a rfl hF)⟩
    obtain ⟨g, hg, rfl⟩ := List.mem_map.mp hy
    exact G.fo.lm i g m f (G.fo.la i g hg) h'
  | ref n =>
    obtain ⟨a, rfl, h1⟩ := Rl.ref.mp R
    unfold whoD at h
    dsimp only at h
    split at h
    · rename_i i fs hn
      split at h
      · rename_i hc
        obtain ⟨hC, hF, hM⟩ := G.fo.mt i m f h
        obtain ⟨dx, vs, h2, h3⟩ := S.cell n _ a hn h1
        refine ⟨a, rfl, getmeth_ok I h2 (G.fo.cl i hC).cls hM (lookup_no fun y hy => ?_) (q a rfl hF)⟩
        obtain ⟨p, hp, rfl⟩ := List.mem_map.mp hy
        exact G.fo.lm i p.1 m f (hc p hp) h
      · cases h
    · cases h
  | _ => cases h
theorem re_meth {pl : Sem Bool} {i : Nat} (G : Gd L X Wx k c) (he : RE L X Wx o f) (ha : RA L X Wx (e :: es) r) (hn : m = L.nm i := by rfl)
    (hst : starEach (e :: es) X.env = (false, eval e X.env) :: starEach es X.env := by rfl) (hpl : (backTo pos (starEach es X.env)).any (·.1) = false := by rfl)
    (ht : eval (.Call (.Attribute o m apos) (e :: es) [] pos) X.env = (do
      let ov ← eval o X.env
      standAt apos.atName
      let (f, first) ← holding [ov] (getMethod ov m pl)
      callWith pos f first (backTo pos (starEach (e :: es) X.env)) (backToKw pos (keywordEach [] X.env))) := by rfl) :
    RE L X Wx (.Call (.Attribute o m apos) (e :: es) [] pos) (xMethW L.toLs c i f r) := by
  refine ⟨fun pins s σ H W st ρ Q I S E o => ?_⟩
  refine PySem.W.methodCall_KW (pl := pl) (he.bind I S E o fun d st1 W1 H1 v u s1 e1 I1 S1 R1 r1 o1 => ?_) ht
  split at o1
  · rename_i g hw
    obtain ⟨a, rfl, hh⟩ := G.who (pl := pl) I1 S1 R1 hw (Q := fun q s₁ => wpAny (model X.prog X.w) X.A (callWith pos q.1 q.2 (backTo pos (starEach (e :: es) X.env)) (backToKw pos (keywordEach [] X.env))) (EP X pins σ Q) X.xe s₁) fun a ea hF => by
      subst ea
      refine PySem.W.callWith_K (first := [.ref a]) (h₀ := X.base) I1.ok.mod.kin (G.fo.kp g hF) (ha.bind I1 S1 (E.mono e1) o1 fun ds st2 W2 H2 vs us s2 hl e2 I2 S2 R2 r2 o2 => ⟨I2.kIn, ?_⟩) hst hpl
      exact G.call (us := .ref a :: us) hF I2 S2 (Rls.mk (R1.mono e2) R2) (.cons rfl r2) o2
    obtain rfl : u = Value.ref a := r1
    rw [hn]
    exact hh
  · exact o1.elim
theorem re_meth0 {pl : Sem Bool} {i : Nat} (G : Gd L X Wx k c) (he : RE L X Wx o f) (hn : m = L.nm i := by rfl)
    (ht : eval (.Call (.Attribute o m apos) [] [] pos) X.env = (do
      let ov ← eval o X.env
      standAt apos.atName
      let (f, first) ← holding [ov] (getMethod ov m pl)
      callWith pos f first (backTo pos (starEach [] X.env)) (backToKw pos (keywordEach [] X.env))) := by rfl) :
    RE L X Wx (.Call (.Attribute o m apos) [] [] pos) (xMethW L.toLs c i f aNil) := by
  refine ⟨fun pins s σ H W st ρ Q I S E o => ?_⟩
  refine PySem.W.methodCall_KW (pl := pl) (he.bind I S E o fun d st1 W1 H1 v u s1 e1 I1 S1 R1 r1 o1 => ?_) ht
  split at o1
  · rename_i g hw
    obtain ⟨a, rfl, hh⟩ := G.who (pl := pl) I1 S1 R1 hw (Q := fun q s₁ => wpAny (model X.prog X.w) X.A (callWith pos q.1 q.2 (backTo pos (starEach [] X.env)) (backToKw pos (keywordEach [] X.env))) (EP X pins σ Q) X.xe s₁) fun a ea hF => by
      subst ea
      exact PySem.W.callWith_K0 (first := [.ref a]) I1.kIn (G.fo.kp g hF) (G.call (us := [.ref a]) hF I1 S1 (Rls.mk R1 (Rls.nil.mpr rfl)) (.cons rfl .nil) o1)
    obtain rfl : u = Value.ref a := r1
    rw [hn]
    exact hh
  · exact o1.elim
def setD (T : Ls) (g : Nat) (d o : D) (st : Store) : Res Store := match o with
  | .ref n => match st[n]? with
    | some (.ins i fs) => if T.isC i = true ∧ g ∈ T.atn i ∧ fs.length < 1000 ∧ ∀ p ∈ fs, p.1 ∈ T.atn i then .ok (st.set n (.ins i (putC g d fs))) st else .stuck
    | _ => .stuck
  | _ => .stuck
def sFldD (T : Ls) (g : Nat) (fo fv : Fe) : Fs := fun ρ st => (fv ρ st).toS ρ fun d st => (fo ρ st).toS ρ fun o st => match setD T g d o st with
  | .ok st' _ => .nx ρ st'
  | _ => .stuck
theorem putC_at {K : PySem.W.Frag} {W : Wd} {nm : Nat → Str} {g : Nat} {d : D} {v : V} : ∀ {fs : List (Nat × D)} {vs : List V}, (∀ p ∈ fs, nm p.1 = nm g → p.1 = g) → Rls K L W (fs.map (·.2)) vs → Rl K L W d v →
    ∃ us, putF (nm g) v ((fs.map fun p => nm p.1).zip vs) = ((putC g d fs).map fun p => nm p.1).zip us ∧ Rls K L W ((putC g d fs).map (·.2)) us
  | [], vs, _, R, Rv => ⟨[v], by rw [Rls.nil.mp R]; rfl, Rls.mk Rv (Rls.nil.mpr rfl)⟩
  | (a, z) :: fs, vs, hi, R, Rv => by
    obtain ⟨u, vs', rfl, R1, R2⟩ := Rls.cons.mp R
    by_cases ha : a = g
    · subst ha
      refine ⟨v :: vs', ?_, ?_⟩
      · unfold putC
        rw [if_pos rfl]
        show (if nm a = nm a then _ else _) = _
        rw [if_pos rfl]
        rfl
      · unfold putC
        rw [if_pos rfl]
        exact Rls.mk Rv R2
    · obtain ⟨us, h1, h2⟩ := putC_at (nm := nm) (fun p hp => hi p (List.mem_cons_of_mem _ hp)) R2 Rv
      refine ⟨u :: us, ?_, ?_⟩
      · unfold putC
        rw [if_neg ha]
        show (if nm a = nm g then _ else (nm a, u) :: putF (nm g) v ((fs.map fun p => nm p.1).zip vs')) = _
        rw [if_neg fun q => ha (hi (a, z) (List.mem_cons_self ..) q), h1]
        rfl
      · unfold putC
        rw [if_neg ha]
        exact Rls.mk R1 h2
theorem rs_fld {g : Nat} {fo fv : Fe} {value : Expr} {pos' : Pos} (G : Gd L X Wx k c) (ha : RE L X Wx o fo) (hv : RE L X Wx value fv) (hn : x = L.nm g := by rfl) (hs : swapsWith value (some (.Attribute o x pos')) pos.line X.env = pure false := by rfl) :
    RS L X Wx (.Assign [.Attribute o x pos'] value pos) (sFldD L.toLs g fo fv) := by
  refine ⟨fun pins s σ H W sto ρ D I S E oo => ?_⟩
  refine plainObj_wpAny_Assign_Attribute (hv.bindS I S E oo fun d st1 W1 H1 v u s1 e1 I1 S1 R1 r1 o1 => ha.bindS I1 S1 (E.mono e1) o1 fun od st2 W2 H2 x v2 s2 e2 I2 S2 R2 r2 o2 => ?_) hs
  cases od with
  | ref n =>
    obtain ⟨a, rfl, h1⟩ := Rl.ref.mp R2
    obtain rfl : v2 = Value.ref a := r2
    unfold setD at o2
    dsimp only at o2
    cases hst : st2[n]? with
    | none => rw [hst] at o2; exact o2.elim
    | some cl =>
      rw [hst] at o2
      cases cl with
      | ins i fs =>
        dsimp only at o2
        by_cases hc : L.isC i = true ∧ g ∈ L.atn i ∧ fs.length < 1000 ∧ ∀ p ∈ fs, p.1 ∈ L.atn i
        · rw [if_pos hc] at o2
          obtain ⟨hC, hg, hz, hall⟩ := hc
          obtain ⟨dx, vs, h2, h3⟩ := S2.cell n _ a hst h1
          rw [hn]
          obtain ⟨us, h4, h5⟩ := putC_at (K := X.K) (W := W2) (nm := L.nm) (g := g) (fun p hp q => G.fo.li i _ _ hC (hall p hp) hg q) h3 (R1.mono e2)
          refine setattr_ok I2 h2 (G.fo.cl i hC).cls (G.fo.ly i g hC hg) (by rw [List.length_zip, List.length_map]; omega) r1 fun s3 I3 => ⟨σ, _, I3, ?_⟩
          exact o2 W2 _ σ .rfl' (S2.write hst rfl h1 ⟨dx, us, by rw [upd_same, h4], h5⟩) (E.mono (e1.trans e2))
        · rw [if_neg hc] at o2; exact o2.elim
      | _ => exact o2.elim
  | _ => exact o2.elim
end
end Gm
namespace Gm
open PySem PySem.Spec PyProof.Rows L2
section
variable {K : PySem.W.Frag} {L : Lw} {W : Wd} {st : Store} {H : Hp}
theorem pyD_all {f : D → Option PyData} (hf : ∀ d v p, Rl K L W d v → f d = some p → Dp K H v p) : ∀ {ds : List D} {vs : List V} {ps : List PyData}, Rls K L W ds vs → ds.mapM f = some ps → DpAll K H vs ps
  | [], vs, ps, R, h => by
    rw [Rls.nil.mp R]
    have : ps = [] := by simpa using h.symm
    subst this
    exact .nil
  | d :: ds, vs, ps, R, h => by
    obtain ⟨v, vs', rfl, R1, R2⟩ := Rls.cons.mp R
    rw [List.mapM_cons] at h
    cases q : f d with
    | none => rw [q] at h; cases h
    | some p =>
      rw [q] at h
      cases q2 : ds.mapM f with
      | none => rw [q2] at h; cases h
      | some ps' =>
        rw [q2] at h
        cases h
        exact .cons (hf d v p R1 q) (pyD_all hf R2 q2)
theorem pyD_ok (S : Sok K L W st H) : ∀ (n : Nat) (d : D) (v : V) (p : PyData), Rl K L W d v → pyD n st d = some p → Dp K H v p
  | 0, _, _, _, _, h => by cases h
  | n + 1, .non, v, p, R, h => by rw [Rl.non.mp R]; cases h; exact .non
  | n + 1, .bl b, v, p, R, h => by rw [Rl.bl.mp R]; cases h; exact .bl b
  | n + 1, .int b, v, p, R, h => by rw [Rl.int.mp R]; cases h; exact .int b
  | n + 1, .str b, v, p, R, h => by rw [Rl.str.mp R]; cases h; exact .str b
  | n + 1, .tup ds, v, p, R, h => by
    obtain ⟨a, vs, rfl, h1, h2⟩ := Rl.tup.mp R
    unfold pyD at h
    obtain ⟨ps, h3, rfl⟩ := Option.map_eq_some_iff.mp h
    exact .tup (SqT_mono S.fz h1) (pyD_all (fun d v p => pyD_ok S n d v p) h2 h3)
  | n + 1, .obj _ _, v, p, R, h => by cases h
  | n + 1, .fn _, v, p, R, h => by cases h
  | n + 1, .ref m, v, p, R, h => by
    obtain ⟨a, rfl, h1⟩ := Rl.ref.mp R
    unfold pyD at h
    dsimp only at h
    split at h
    · rename_i ds hc
      obtain ⟨ps, h3, rfl⟩ := Option.map_eq_some_iff.mp h
      obtain ⟨vs, h4, h5⟩ := S.cell m _ a hc h1
      exact .lst (.inl (.inl h4)) (pyD_all (fun d v p => pyD_ok S n d v p) h5 h3)
    · cases h
end
@[simp] theorem okCs_nil (T : Ls) : okCs T [] = true := by rw [okCs]
@[simp] theorem okC_int (T : Ls) (i : Int) : okC T (.int i) = true := by simp [okC]
@[simp] theorem okC_bl (T : Ls) (i : Bool) : okC T (.bl i) = true := by simp [okC]
@[simp] theorem okC_str (T : Ls) (i : Str) : okC T (.str i) = true := by simp [okC]
@[simp] theorem okC_non (T : Ls) : okC T .non = true := by simp [okC]
theorem rhsL_of {T : Ls} {d : D} (st : Store) (h : rhs T d = true) : rhsL T d st = true := by
  unfold rhsL
  rw [h]
  rfl
noncomputable def eqD (T : Ls) (c : Fn) : Nat → D → D → Store → Res Bool
  | 0, _, _, _ => .stuck
  | n + 1, d1, d2, st => match d1 with
    | .obj i _ => match T.meth i 21 with
      | some f => if rhsL T d2 st = true then (callD T c f [d1, d2] st).bind asB else .stuck
      | none => .stuck
    | _ => match pyD 6 st d1, pyD 6 st d2 with
      | some p, some q => if SeqAt.shaped p = true ∧ SeqAt.shaped q = true then .ok (PyData.eqv p q) st else .stuck
      | _, _ => match d1, d2 with
        | .tup xs, .tup ys => eqAll T (eqD T c n) xs ys st
        | .ref m, .ref p => match st[m]?, st[p]? with
          | some (.lst xs), some (.lst ys) => if xs.length = ys.length then eqLs T (eqD T c n) st xs ys else .ok false st
          | _, _ => .stuck
        | _, _ => .stuck
section
variable {L : Lw} {X : Cx} {pins : List (Addr × Obj)} {s : Shared} {σ : St} {H : Hp} {W : Wd}
end
section
variable {L : Lw} {X : Cx} {pins : List (Addr × Obj)} {s : Shared} {σ : St} {H : Hp} {W : Wd} {st : Store}
end
end Gm
namespace Gm
section
open PySem PySem.SeqAt
open AutoSeq1 (wpAny_loadPart')
open MeetsSeq MeetsSeq2 MeetsSeq3 SeqRoads2 GQ
variable {prog : Program} {w : World} {A : Around} {R : Result → Shared → Prop}
theorem tuple_eqH (l b : Addr) (items items2 : Array Value) (n n2 : Nat) (dd dd2 : Option Addr) (sl sl2 : Array (Option Value)) (I : Nat → Shared → Prop)
    (turn : ∀ i (h1 : i < items.size) (h2 : i < items2.size) s, I i s → wpAny (model prog w) A.in1 (eqBool items[i] items2[i]) (fun r s' => if r = true then I (i + 1) s' else R (.ok (.ret (.bool false))) s') (fun e s' => R (.error e) s') s)
    (fin : ∀ i s, I i s → i = min items.size items2.size → R (.ok (.ret (.bool (items.size == items2.size)))) s) {s : Shared} (hl1 : s.heap.get? l = some { cls := .type "tuple", dict := dd, data := .seq items n, slots := sl }) (hb1 : s.heap.get? b = some { cls := .type "tuple", dict := dd2, data := .seq items2 n2, slots := sl2 }) (h : I 0 s) :
    wpAny (model prog w) A.in1 (Builtin.«tuple.__eq__» ⟨[.ref l, .ref b], []⟩) (FinOf prog w A R) (fun e s' => R (.error e) s') s := by
  have f2 := AutoSeq1.sub_tuple_tuple
  have hZ : (items.toList.zip items2.toList).length = min items.size items2.size := by simp
  have h0 := h
  obtain ⟨hp, g, d, tk, os⟩ := s
  wp_walk using wpAny_loadPart' hl1, wpAny_loadPart' hb1, wpAny_forIn_list _ (fun rest b s' => (b.1 = none ∧ ∃ i, rest = (items.toList.zip items2.toList).drop i ∧ i ≤ min items.size items2.size ∧ I i s')) _
  case turn =>
    rintro ⟨y, x⟩ rest b s' ⟨hb', i, hz, hi, hI⟩
    have hlt : i < (items.toList.zip items2.toList).length := by
      rcases Nat.lt_or_ge i (items.toList.zip items2.toList).length with h' | h'
      · exact h'
      · rw [List.drop_of_length_le h'] at hz; cases hz
    have h1 : i < items.size := by omega
    have h2 : i < items2.size := by omega
    rw [List.drop_eq_getElem_cons hlt] at hz
    injection hz with hyx hrest
    have hy : y = items[i] := by have := congrArg Prod.fst hyx; simpa using this
    have hx : x = items2[i] := by have := congrArg Prod.snd hyx; simpa using this
    subst hy hx
    refine wpAny_bind (wpAny_mono (turn i h1 h2 s' hI) (fun r s2 q2 => ?_) fun _ _ x => x)
    cases r with
    | true =>
      wp_walk
      exact ⟨rfl, i + 1, hrest, by omega, q2⟩
    | false =>
      wp_walk
      exact q2
  case fin =>
    rintro ⟨b1, b2⟩ s' ⟨hb', i, hz, hi, hI⟩
    simp only at hb'
    subst hb'
    have hge : min items.size items2.size ≤ i := by
      rcases Nat.lt_or_ge i (items.toList.zip items2.toList).length with h' | h'
      · rw [List.drop_eq_getElem_cons h'] at hz; cases hz
      · exact hZ ▸ h'
    have hR := fin i s' hI (by omega)
    wp_walk
    simpa [Builtin.Tuple.tupleCompareSizes] using hR
  case h =>
    exact ⟨rfl, 0, rfl, Nat.zero_le _, h0⟩
theorem tuple_neH (l b : Addr) (items items2 : Array Value) (n n2 : Nat) (dd dd2 : Option Addr) (sl sl2 : Array (Option Value)) (I : Nat → Shared → Prop)
    (turn : ∀ i (h1 : i < items.size) (h2 : i < items2.size) s, I i s → wpAny (model prog w) A.in1 (eqBool items[i] items2[i]) (fun r s' => if r = true then I (i + 1) s' else R (.ok (.ret (.bool true))) s') (fun e s' => R (.error e) s') s)
    (fin : ∀ i s, I i s → i = min items.size items2.size → R (.ok (.ret (.bool (!(items.size == items2.size))))) s) {s : Shared} (hl1 : s.heap.get? l = some { cls := .type "tuple", dict := dd, data := .seq items n, slots := sl }) (hb1 : s.heap.get? b = some { cls := .type "tuple", dict := dd2, data := .seq items2 n2, slots := sl2 }) (h : I 0 s) :
    wpAny (model prog w) A.in1 (Builtin.«tuple.__ne__» ⟨[.ref l, .ref b], []⟩) (FinOf prog w A R) (fun e s' => R (.error e) s') s := by
  have f2 := AutoSeq1.sub_tuple_tuple
  have hZ : (items.toList.zip items2.toList).length = min items.size items2.size := by simp
  have h0 := h
  obtain ⟨hp, g, d, tk, os⟩ := s
  wp_walk using wpAny_loadPart' hl1, wpAny_loadPart' hb1, wpAny_forIn_list _ (fun rest b s' => (b.1 = none ∧ ∃ i, rest = (items.toList.zip items2.toList).drop i ∧ i ≤ min items.size items2.size ∧ I i s')) _
  case turn =>
    rintro ⟨y, x⟩ rest b s' ⟨hb', i, hz, hi, hI⟩
    have hlt : i < (items.toList.zip items2.toList).length := by
      rcases Nat.lt_or_ge i (items.toList.zip items2.toList).length with h' | h'
      · exact h'
      · rw [List.drop_of_length_le h'] at hz; cases hz
    have h1 : i < items.size := by omega
    have h2 : i < items2.size := by omega
    rw [List.drop_eq_getElem_cons hlt] at hz
    injection hz with hyx hrest
    have hy : y = items[i] := by have := congrArg Prod.fst hyx; simpa using this
    have hx : x = items2[i] := by have := congrArg Prod.snd hyx; simpa using this
    subst hy hx
    refine wpAny_bind (wpAny_mono (turn i h1 h2 s' hI) (fun r s2 q2 => ?_) fun _ _ x => x)
    cases r with
    | true =>
      wp_walk
      exact ⟨rfl, i + 1, hrest, by omega, q2⟩
    | false =>
      wp_walk
      exact q2
  case fin =>
    rintro ⟨b1, b2⟩ s' ⟨hb', i, hz, hi, hI⟩
    simp only at hb'
    subst hb'
    have hge : min items.size items2.size ≤ i := by
      rcases Nat.lt_or_ge i (items.toList.zip items2.toList).length with h' | h'
      · rw [List.drop_eq_getElem_cons h'] at hz; cases hz
      · exact hZ ▸ h'
    have hR := fin i s' hI (by omega)
    wp_walk
    simpa [Builtin.Tuple.tupleCompareSizes, bne] using hR
  case h =>
    exact ⟨rfl, 0, rfl, Nat.zero_le _, h0⟩
end
section
open PySem PySem.Spec
variable {prog : Program} {w : World} {A : Around} {E : Value → Shared → Prop} {s : Shared}
theorem rc_tupE {l b : Addr} {items items2 : Array Value} {Q : Value → Shared → Prop} (hu : A.units < cLine) (I : Nat → Shared → Prop) (hl : s.heap.IsTuple l items) (hb : s.heap.IsTuple b items2)
    (turn : ∀ i (h1 : i < items.size) (h2 : i < items2.size) s, I i s → wpAny (model prog w) A.in1 (eqBool items[i] items2[i]) (fun r s' => if r = true then I (i + 1) s' else Q (.bool false) s') E s)
    (fin : ∀ i s, I i s → i = min items.size items2.size → Q (.bool (items.size == items2.size)) s) (h : I 0 s) : wpAny (model prog w) A (richCompare .Eq (.ref l) (.ref b)) Q E s := by
  obtain ⟨⟨cls, dd, data, sl⟩, ho, hc, n, hd⟩ := id hl
  obtain ⟨⟨cls2, dd2, data2, sl2⟩, ho2, hc2, n2, hd2⟩ := id hb
  simp only at hc hd hc2 hd2
  subst hc hd hc2 hd2
  refine wpAny_richCompare_same_room (op := .Eq) ⟨_, ho, rfl⟩ ⟨_, ho2, rfl⟩ F.slot_tuple_eq (GQ.call_here F.slot_tuple_eq ⟨_, ho, rfl⟩ F.entry_tuple_eq (F.args_tuple_eq_2 _ _) ?_) hu
  refine tuple_eqH (R := wants (fun v s' => v ≠ .notImplemented ∧ Q v s') E) l b items items2 n n2 dd dd2 sl sl2 I (fun i h1 h2 s' q => ?_) (fun i s' q e => ⟨(fun x => nomatch x), fin i s' q e⟩) ho ho2 h
  refine wpAny_mono (turn i h1 h2 s' q) (fun r s2 q2 => ?_) fun _ _ x => x
  cases r with
  | true => exact q2
  | false => exact ⟨(fun x => nomatch x), q2⟩
theorem rc_tupN {l b : Addr} {items items2 : Array Value} {Q : Value → Shared → Prop} (hu : A.units < cLine) (I : Nat → Shared → Prop) (hl : s.heap.IsTuple l items) (hb : s.heap.IsTuple b items2)
    (turn : ∀ i (h1 : i < items.size) (h2 : i < items2.size) s, I i s → wpAny (model prog w) A.in1 (eqBool items[i] items2[i]) (fun r s' => if r = true then I (i + 1) s' else Q (.bool true) s') E s)
    (fin : ∀ i s, I i s → i = min items.size items2.size → Q (.bool (!(items.size == items2.size))) s) (h : I 0 s) : wpAny (model prog w) A (richCompare .NotEq (.ref l) (.ref b)) Q E s := by
  obtain ⟨⟨cls, dd, data, sl⟩, ho, hc, n, hd⟩ := id hl
  obtain ⟨⟨cls2, dd2, data2, sl2⟩, ho2, hc2, n2, hd2⟩ := id hb
  simp only at hc hd hc2 hd2
  subst hc hd hc2 hd2
  refine wpAny_richCompare_same_room (op := .NotEq) ⟨_, ho, rfl⟩ ⟨_, ho2, rfl⟩ F.slot_tuple_ne (GQ.call_here F.slot_tuple_ne ⟨_, ho, rfl⟩ F.entry_tuple_ne (F.args_tuple_ne_2 _ _) ?_) hu
  refine tuple_neH (R := wants (fun v s' => v ≠ .notImplemented ∧ Q v s') E) l b items items2 n n2 dd dd2 sl sl2 I (fun i h1 h2 s' q => ?_) (fun i s' q e => ⟨(fun x => nomatch x), fin i s' q e⟩) ho ho2 h
  refine wpAny_mono (turn i h1 h2 s' q) (fun r s2 q2 => ?_) fun _ _ x => x
  cases r with
  | true => exact q2
  | false => exact ⟨(fun x => nomatch x), q2⟩
end
section
open PySem PySem.Spec PySem.Calls PyProof.Rows PySem.W
open Builtin
variable {prog : Program} {w : World} {A : Around} {E : Value → Shared → Prop} {s : Shared} {K : Frag} {x C L f : Addr} {h₀ : Heap} {m : Str → Option Value} {ox : Obj} {od : Option Obj} {b tb : Value}
theorem objNe_entry_K {Q : PySem.Fin → Shared → Prop} (hu : A.units < cLine) (X : K.In s.heap) (I : InstAt s.heap x ox C od) (hs : findIn K (.ref C) "__eq__" = some (some (.ref f))) (hf : isFn K (.ref f) = true)
    (h : wpAny (model prog w) A (call (.ref f) [.ref x, b]) (fun v s' => ∃ r, v = .bool r ∧ Q (.done (.ret (.bool (!r)))) s') E s) : wpAny (model prog w) A (Builtin.«object.__ne__» ⟨[.ref x, b], []⟩) Q E s := by
  obtain ⟨hh, g, d, t, os⟩ := s
  unfold Builtin.«object.__ne__»
  repeat (first
    | with_reducible refine wpAny_cRoomFor hu ?_
    | (refine wpAny_bind (m := callSpecialIfBound? (.ref x) (Str.ofString "__eq__") [b])
        (ifBound_K X I hs hf (wpAny_mono h (fun r s' hr => by
          obtain ⟨b, rfl, hq⟩ := hr
          repeat (first | exact hq | exact wpAny_pure hq | exact wpAny_truthy_bool hq | (refine wpAny_bind (m := truthy (.bool _)) (wpAny_truthy_bool ?_)) | wp_step)) fun _ _ e => e)))
    | wp_step)
theorem check_ne_K {M : Model} {Q : Unit → Shared → Prop} (X : K.In s.heap) (I : InstAt s.heap x ox C od) (hob : mroIn K C (.type "object") = some true) (q : Q () s) : wpAny M A (checkBuiltinCall "object.__ne__" ⟨[.ref x, b], []⟩) Q E s := by
  simp only [checkBuiltinCall, PySem.F.cmpKind_ne, PySem.F.cmpSplit_ne]
  have LI : Looks M s.heap (isInstance (.ref x) (.type "object")) true := by
    unfold isInstance
    exact I.type.andThen (looks_mroIn X hob)
  refine wpAny_bind (LI.here ?_)
  simp only [Bool.not_true, Bool.false_eq_true, if_false]
  have ha := PySem.F.cmpArgs_ne (.ref x) b
  cases hsig : Manifest.signature? "object.__ne__" with
  | none => exact wpAny_pure q
  | some sig =>
    simp only [argsOk, hsig] at ha
    have h2 : Bind.checkArgs "object.__ne__" sig ⟨[.ref x, b], []⟩ = pure () := ha
    show wpAny M A (Bind.checkArgs "object.__ne__" sig ⟨[.ref x, b], []⟩) Q E _
    rw [h2]; exact wpAny_pure q
theorem ne_K {Q : Value → Shared → Prop} (hu : A.units + 1 < cLine) (F : Fr h₀ L s.heap m) (X₀ : K.In h₀) (I : InstAt s.heap x ox C od) (hb : Looks (model prog w) s.heap (typeOf b) tb) (hn : notFirst K C tb = true)
    (hs : findIn K (.ref C) "__eq__" = some (some (.ref f))) (hf : isFn K (.ref f) = true) (hne : findIn K (.ref C) "__ne__" = some (some (.builtin "object.__ne__"))) (hob : mroIn K C (.type "object") = some true)
    (h : wpAny (model prog w) A.in1 (call (.ref f) [.ref x, b]) (fun v s' => ∃ r, v = .bool r ∧ Q (.bool (!r)) s') E s) : wpAny (model prog w) A (richCompare .NotEq (.ref x) b) Q E s := by
  have X := X₀.keeps F.keep
  have one : wpAny (model prog w) A (tryCompare (.ref x) "__ne__" b) (fun r s' => ∃ v, r = some v ∧ Q v s') E s := by
    unfold tryCompare
    have hk : wpAny (model prog w) A (call (.builtin "object.__ne__") ([.ref x] ++ [b])) (fun v s' => v ≠ .notImplemented ∧ Q v s') E s := by
      refine wpAny_call (codeAny_call_builtin PySem.F.cmp_object.ne.plain PySem.F.cmpEntry_ne (check_ne_K X I hob (objNe_entry_K (by show A.units + 1 < cLine; exact hu) X I hs hf (wpAny_mono h (fun v s' hv => ?_) fun _ _ e => e))))
      obtain ⟨r, rfl, hq⟩ := hv
      exact ⟨r, rfl, (fun z => nomatch z), hq⟩
    refine wpAny_bind (m := callSpecialIfBound? (.ref x) (Str.ofString "__ne__") [b]) ?_
    simp only [callSpecialIfBound?, bindSpecialIfBound?]
    refine wpAny_holding (wpAny_bind (wpAny_bind (wpAny_bind (I.type.here ((looks_findIn X hne).here ?_)))))
    refine wpAny_bind (wpAny_askSetting (wpAny_ite ?_))
    have fin : wpAny (model prog w) A (call (.builtin "object.__ne__") ([.ref x] ++ [b]) >>= fun v => pure (some v)) (fun r s' => wpAny (model prog w) A (match r with | some .notImplemented | none => pure none | some v => pure (some v)) (fun r s' => ∃ v, r = some v ∧ Q v s') E s') E s :=
      wpAny_bind (wpAny_mono hk (fun v s' h' => wpAny_pure (by
        obtain ⟨hne', hq⟩ := h'
        cases v <;> first | exact absurd rfl hne' | exact wpAny_pure ⟨_, rfl, hq⟩)) fun _ _ h' => h')
    have hB := PySem.F.cmp_object.ne.bind (.ref x)
    simp only [hB]
    split
    · exact wpAny_bind (wpAny_pure (wpAny_pure fin))
    · exact wpAny_tryCatch (wpAny_bind (wpAny_pure (wpAny_pure fin)))
  unfold richCompare
  simp only [oneThing_ref]
  refine wpAny_holding (wpAny_bind (wpAny_cRoomFor (Nat.lt_of_succ_lt hu) ?_))
  refine wpAny_bind (I.type.here (wpAny_bind (hb.here ?_)))
  split
  · rename_i q
    have e : subIn K tb (.ref C) = some false := by
      rcases Bool.or_eq_true_iff.mp hn with e | e
      · rw [beq_iff_eq.mp e] at q; simp at q
      · exact beq_iff_eq.mp e
    refine wpAny_bind ((looks_subIn X e).here ?_)
    simp only [Bool.false_eq_true, if_false]
    refine wpAny_bind (wpAny_mono one (fun r s' z => ?_) fun _ _ e => e)
    obtain ⟨v, rfl, hq⟩ := z
    exact wpAny_pure hq
  · refine wpAny_bind (wpAny_pure ?_)
    simp only [Bool.false_eq_true, if_false]
    refine wpAny_bind (wpAny_mono one (fun r s' z => ?_) fun _ _ e => e)
    obtain ⟨v, rfl, hq⟩ := z
    exact wpAny_pure hq
end
section
open PySem PySem.SeqAt
open AutoSeq1 (wpAny_loadPart')
open MeetsSeq MeetsSeq2 MeetsSeq3 SeqRoads2 GQ
variable {prog : Program} {w : World} {A : Around} {R : Result → Shared → Prop}
theorem list_loopE (l b : Addr) (N : Nat) (I : Nat → Shared → Prop)
    (hI : ∀ i s, I i s → ∃ its its2, LsAt s l N its ∧ LsAt s b N its2 ∧ ∀ (h1 : i < its.size) (h2 : i < its2.size), wpAny (model prog w) A.in1 (eqBool its[i] its2[i]) (fun r s' => if r = true then I (i + 1) s' else (∃ its its2, LsAt s' l N its ∧ LsAt s' b N its2) ∧ R (.ok (.ret (.bool false))) s') (fun e s' => R (.error e) s') s)
    (fin : ∀ s, I N s → R (.ok (.ret (.bool true))) s) : ∀ (k i : Nat), N - i = k → i ≤ N → ∀ s, I i s → wpAny (model prog w) A.in1 (Builtin.«list.__eq__.loop» ⟨[.ref l, .ref b, rawInt i, rawInt 2], []⟩) (FinOf prog w A R) (fun e s' => R (.error e) s') s := by
  intro k
  induction k with
  | zero =>
    intro i hk hi s h
    obtain ⟨its, its2, ⟨z1, n, hl⟩, ⟨z2, n2, hb⟩, _⟩ := hI i s h
    obtain rfl : i = N := by omega
    have hR := fin s h
    obtain ⟨hp, g, d, tk, os⟩ := s
    wp_walk using wpAny_loadPart' hl, wpAny_loadPart' hb
    have hi1 : its[((i : Nat) : Int).toNat]? = none := by simp; omega
    have hi2 : its2[((i : Nat) : Int).toNat]? = none := by simp; omega
    rw [hi1, hi2]
    wp_walk using wpAny_loadPart' hl, wpAny_loadPart' hb
    show R (.ok (.ret (.bool (its.size == its2.size)))) _
    rw [z1, z2]
    simpa using hR
  | succ k ih =>
    intro i hk hi s h
    obtain ⟨its, its2, ⟨z1, n, hl⟩, ⟨z2, n2, hb⟩, turn⟩ := hI i s h
    obtain ⟨hp, g, d, tk, os⟩ := s
    have h1 : i < its.size := by omega
    have h2 : i < its2.size := by omega
    have t := turn h1 h2
    wp_walk using wpAny_loadPart' hl, wpAny_loadPart' hb
    have hi1 : its[((i : Nat) : Int).toNat]? = some its[i] := by simp [h1]
    have hi2 : its2[((i : Nat) : Int).toNat]? = some its2[i] := by simp [h2]
    have hc : ((i : Int) + 1) = ((i + 1 : Nat) : Int) := by push_cast; rfl
    rw [hi1, hi2]
    refine wpAny_bind (wpAny_mono t (fun r s' q => ?_) fun _ _ x => x)
    cases r with
    | true =>
      wp_walk
      rw [hc]
      exact ⟨plainId_quiet plain_eq_loop _, codeAny_builtin entry_eq_loop (by
        rw [Around.under_plainId plain_eq_loop _]
        exact ih (i + 1) (by omega) (by omega) s' q)⟩
    | false =>
      obtain ⟨⟨js, js2, ⟨y1, m, hl'⟩, ⟨y2, m2, hb'⟩⟩, hR⟩ := q
      obtain ⟨hp', g', d', tk', os'⟩ := s'
      wp_walk using wpAny_loadPart' hl', wpAny_loadPart' hb'
      have g1 : i < js.size := by omega
      have g2 : i < js2.size := by omega
      have hj1 : js[((i : Nat) : Int).toNat]? = some js[i] := by simp [g1]
      have hj2 : js2[((i : Nat) : Int).toNat]? = some js2[i] := by simp [g2]
      rw [hj1, hj2]
      wp_walk
      exact hR
theorem list_loopN (l b : Addr) (N : Nat) (I : Nat → Shared → Prop)
    (hI : ∀ i s, I i s → ∃ its its2, LsAt s l N its ∧ LsAt s b N its2 ∧ ∀ (h1 : i < its.size) (h2 : i < its2.size), wpAny (model prog w) A.in1 (eqBool its[i] its2[i]) (fun r s' => if r = true then I (i + 1) s' else (∃ its its2, LsAt s' l N its ∧ LsAt s' b N its2) ∧ R (.ok (.ret (.bool true))) s') (fun e s' => R (.error e) s') s)
    (fin : ∀ s, I N s → R (.ok (.ret (.bool false))) s) : ∀ (k i : Nat), N - i = k → i ≤ N → ∀ s, I i s → wpAny (model prog w) A.in1 (Builtin.«list.__eq__.loop» ⟨[.ref l, .ref b, rawInt i, rawInt 3], []⟩) (FinOf prog w A R) (fun e s' => R (.error e) s') s := by
  intro k
  induction k with
  | zero =>
    intro i hk hi s h
    obtain ⟨its, its2, ⟨z1, n, hl⟩, ⟨z2, n2, hb⟩, _⟩ := hI i s h
    obtain rfl : i = N := by omega
    have hR := fin s h
    obtain ⟨hp, g, d, tk, os⟩ := s
    wp_walk using wpAny_loadPart' hl, wpAny_loadPart' hb
    have hi1 : its[((i : Nat) : Int).toNat]? = none := by simp; omega
    have hi2 : its2[((i : Nat) : Int).toNat]? = none := by simp; omega
    rw [hi1, hi2]
    wp_walk using wpAny_loadPart' hl, wpAny_loadPart' hb
    show R (.ok (.ret (.bool (its.size != its2.size)))) _
    rw [z1, z2]
    simpa using hR
  | succ k ih =>
    intro i hk hi s h
    obtain ⟨its, its2, ⟨z1, n, hl⟩, ⟨z2, n2, hb⟩, turn⟩ := hI i s h
    obtain ⟨hp, g, d, tk, os⟩ := s
    have h1 : i < its.size := by omega
    have h2 : i < its2.size := by omega
    have t := turn h1 h2
    wp_walk using wpAny_loadPart' hl, wpAny_loadPart' hb
    have hi1 : its[((i : Nat) : Int).toNat]? = some its[i] := by simp [h1]
    have hi2 : its2[((i : Nat) : Int).toNat]? = some its2[i] := by simp [h2]
    have hc : ((i : Int) + 1) = ((i + 1 : Nat) : Int) := by push_cast; rfl
    rw [hi1, hi2]
    refine wpAny_bind (wpAny_mono t (fun r s' q => ?_) fun _ _ x => x)
    cases r with
    | true =>
      wp_walk
      rw [hc]
      exact ⟨plainId_quiet plain_eq_loop _, codeAny_builtin entry_eq_loop (by
        rw [Around.under_plainId plain_eq_loop _]
        exact ih (i + 1) (by omega) (by omega) s' q)⟩
    | false =>
      obtain ⟨⟨js, js2, ⟨y1, m, hl'⟩, ⟨y2, m2, hb'⟩⟩, hR⟩ := q
      obtain ⟨hp', g', d', tk', os'⟩ := s'
      wp_walk using wpAny_loadPart' hl', wpAny_loadPart' hb'
      have g1 : i < js.size := by omega
      have g2 : i < js2.size := by omega
      have hj1 : js[((i : Nat) : Int).toNat]? = some js[i] := by simp [g1]
      have hj2 : js2[((i : Nat) : Int).toNat]? = some js2[i] := by simp [g2]
      rw [hj1, hj2]
      wp_walk
      exact hR
theorem list_eqH (l b : Addr) (N N2 : Nat) (I : Nat → Shared → Prop) {s : Shared} {its its2 : Array Value} (h1 : LsAt s l N its) (h2 : LsAt s b N2 its2)
    (hI : N = N2 → ∀ i s, I i s → ∃ its its2, LsAt s l N its ∧ LsAt s b N its2 ∧ ∀ (h1 : i < its.size) (h2 : i < its2.size), wpAny (model prog w) A.in1 (eqBool its[i] its2[i]) (fun r s' => if r = true then I (i + 1) s' else (∃ its its2, LsAt s' l N its ∧ LsAt s' b N its2) ∧ R (.ok (.ret (.bool false))) s') (fun e s' => R (.error e) s') s)
    (fin : N = N2 → ∀ s, I N s → R (.ok (.ret (.bool true))) s) (h0 : N = N2 → I 0 s) (hd : N ≠ N2 → R (.ok (.ret (.bool false))) s) : wpAny (model prog w) A.in1 (Builtin.«list.__eq__» ⟨[.ref l, .ref b], []⟩) (FinOf prog w A R) (fun e s' => R (.error e) s') s := by
  obtain ⟨z1, n, hl⟩ := h1
  obtain ⟨z2, n2, hb⟩ := h2
  have f3 := AutoSeq1.sub_list_list
  by_cases hN : N = N2
  · have hne : ¬ (its.size != its2.size) = true := by simp [z1, z2, hN]
    have hs := h0 hN
    have lp := list_loopE l b N I (hI hN) (fin hN) N 0 (by omega) (Nat.zero_le _) s hs
    obtain ⟨hp, g, d, tk, os⟩ := s
    wp_walk using wpAny_loadPart' hl, wpAny_loadPart' hb
    exact ⟨plainId_quiet plain_eq_loop _, codeAny_builtin entry_eq_loop (by
      rw [Around.under_plainId plain_eq_loop _]
      exact lp)⟩
  · have hne : (its.size != its2.size) = true := by simp [z1, z2, hN]
    have hs := hd hN
    obtain ⟨hp, g, d, tk, os⟩ := s
    wp_walk using wpAny_loadPart' hl, wpAny_loadPart' hb
    exact hs
theorem list_neH (l b : Addr) (N N2 : Nat) (I : Nat → Shared → Prop) {s : Shared} {its its2 : Array Value} (h1 : LsAt s l N its) (h2 : LsAt s b N2 its2)
    (hI : N = N2 → ∀ i s, I i s → ∃ its its2, LsAt s l N its ∧ LsAt s b N its2 ∧ ∀ (h1 : i < its.size) (h2 : i < its2.size), wpAny (model prog w) A.in1 (eqBool its[i] its2[i]) (fun r s' => if r = true then I (i + 1) s' else (∃ its its2, LsAt s' l N its ∧ LsAt s' b N its2) ∧ R (.ok (.ret (.bool true))) s') (fun e s' => R (.error e) s') s)
    (fin : N = N2 → ∀ s, I N s → R (.ok (.ret (.bool false))) s) (h0 : N = N2 → I 0 s) (hd : N ≠ N2 → R (.ok (.ret (.bool true))) s) : wpAny (model prog w) A.in1 (Builtin.«list.__ne__» ⟨[.ref l, .ref b], []⟩) (FinOf prog w A R) (fun e s' => R (.error e) s') s := by
  obtain ⟨z1, n, hl⟩ := h1
  obtain ⟨z2, n2, hb⟩ := h2
  have f3 := AutoSeq1.sub_list_list
  by_cases hN : N = N2
  · have hne : ¬ (its.size != its2.size) = true := by simp [z1, z2, hN]
    have hs := h0 hN
    have lp := list_loopN l b N I (hI hN) (fin hN) N 0 (by omega) (Nat.zero_le _) s hs
    obtain ⟨hp, g, d, tk, os⟩ := s
    wp_walk using wpAny_loadPart' hl, wpAny_loadPart' hb
    exact ⟨plainId_quiet plain_eq_loop _, codeAny_builtin entry_eq_loop (by
      rw [Around.under_plainId plain_eq_loop _]
      exact lp)⟩
  · have hne : (its.size != its2.size) = true := by simp [z1, z2, hN]
    have hs := hd hN
    obtain ⟨hp, g, d, tk, os⟩ := s
    wp_walk using wpAny_loadPart' hl, wpAny_loadPart' hb
    exact hs
end
section
open PySem PySem.Spec
variable {prog : Program} {w : World} {A : Around} {E : Value → Shared → Prop} {s : Shared}
theorem rc_lstE {l b : Addr} {N N2 : Nat} {its its2 : Array Value} {Q : Value → Shared → Prop} (hu : A.units < cLine) (I : Nat → Shared → Prop) (h1 : LsAt s l N its) (h2 : LsAt s b N2 its2)
    (hI : N = N2 → ∀ i s, I i s → ∃ its its2, LsAt s l N its ∧ LsAt s b N its2 ∧ ∀ (h1 : i < its.size) (h2 : i < its2.size), wpAny (model prog w) A.in1 (eqBool its[i] its2[i]) (fun r s' => if r = true then I (i + 1) s' else (∃ its its2, LsAt s' l N its ∧ LsAt s' b N its2) ∧ Q (.bool false) s') E s)
    (fin : N = N2 → ∀ s, I N s → Q (.bool true) s) (h0 : N = N2 → I 0 s) (hd : N ≠ N2 → Q (.bool false) s) : wpAny (model prog w) A (richCompare .Eq (.ref l) (.ref b)) Q E s := by
  obtain ⟨z1, n, hl⟩ := id h1
  obtain ⟨z2, n2, hb⟩ := id h2
  refine wpAny_richCompare_same_room (op := .Eq) ⟨_, hl, rfl⟩ ⟨_, hb, rfl⟩ F.slot_list_eq (GQ.call_here F.slot_list_eq ⟨_, hl, rfl⟩ F.entry_list_eq (F.args_list_eq_2 _ _) ?_) hu
  refine list_eqH (R := wants (fun v s' => v ≠ .notImplemented ∧ Q v s') E) l b N N2 I h1 h2 (fun hN i s' q => ?_) (fun hN s' q => ⟨(fun x => nomatch x), fin hN s' q⟩) h0 (fun hN => ⟨(fun x => nomatch x), hd hN⟩)
  obtain ⟨js, js2, a1, a2, t⟩ := hI hN i s' q
  refine ⟨js, js2, a1, a2, fun g1 g2 => wpAny_mono (t g1 g2) (fun r s2 q2 => ?_) fun _ _ x => x⟩
  cases r with
  | true => exact q2
  | false => exact ⟨q2.1, (fun x => nomatch x), q2.2⟩
theorem rc_lstN {l b : Addr} {N N2 : Nat} {its its2 : Array Value} {Q : Value → Shared → Prop} (hu : A.units < cLine) (I : Nat → Shared → Prop) (h1 : LsAt s l N its) (h2 : LsAt s b N2 its2)
    (hI : N = N2 → ∀ i s, I i s → ∃ its its2, LsAt s l N its ∧ LsAt s b N its2 ∧ ∀ (h1 : i < its.size) (h2 : i < its2.size), wpAny (model prog w) A.in1 (eqBool its[i] its2[i]) (fun r s' => if r = true then I (i + 1) s' else (∃ its its2, LsAt s' l N its ∧ LsAt s' b N its2) ∧ Q (.bool true) s') E s)
    (fin : N = N2 → ∀ s, I N s → Q (.bool false) s) (h0 : N = N2 → I 0 s) (hd : N ≠ N2 → Q (.bool true) s) : wpAny (model prog w) A (richCompare .NotEq (.ref l) (.ref b)) Q E s := by
  obtain ⟨z1, n, hl⟩ := id h1
  obtain ⟨z2, n2, hb⟩ := id h2
  refine wpAny_richCompare_same_room (op := .NotEq) ⟨_, hl, rfl⟩ ⟨_, hb, rfl⟩ F.slot_list_ne (GQ.call_here F.slot_list_ne ⟨_, hl, rfl⟩ F.entry_list_ne (F.args_list_ne_2 _ _) ?_) hu
  refine list_neH (R := wants (fun v s' => v ≠ .notImplemented ∧ Q v s') E) l b N N2 I h1 h2 (fun hN i s' q => ?_) (fun hN s' q => ⟨(fun x => nomatch x), fin hN s' q⟩) h0 (fun hN => ⟨(fun x => nomatch x), hd hN⟩)
  obtain ⟨js, js2, a1, a2, t⟩ := hI hN i s' q
  refine ⟨js, js2, a1, a2, fun g1 g2 => wpAny_mono (t g1 g2) (fun r s2 q2 => ?_) fun _ _ x => x⟩
  cases r with
  | true => exact q2
  | false => exact ⟨q2.1, (fun x => nomatch x), q2.2⟩
end
end Gm
namespace Gm
open PySem PySem.Spec PyProof.Rows L2
section
variable {L : Lw} {X : Cx} {Wx : WX} {k : Nat} {c : Fn}
def BP (X : Cx) (pins : List (Addr × Obj)) (σ : St) (Q : Bool → Hp → Prop) (neg : Bool) (u : Value) (s' : Shared) : Prop := ∃ b, u = .bool (b != neg) ∧ TP X pins σ Q b s'
theorem asB_bind {W : Wd} {σ : St} {Q : Bool → Hp → Prop} {r : Res D} (o : Out X.K L Wx W σ (okT Q) (r.bind asB)) : Out X.K L Wx W σ (okE X.K L (fun v H => ∃ b, v = .bl b ∧ Q b H)) r := by
  cases r with
  | ok d st =>
    cases d with
    | bl b => exact fun W' H' e' S' v R' => ⟨b, Rl.bl.mp R', o W' H' e' S'⟩
    | _ => exact o.elim
  | err x st => exact o
  | stuck => exact o
theorem Gd.tyLook (G : Gd L X Wx k c) {i : Nat} (hi : L.isC i = true) {pins : List (Addr × Obj)} {s : Shared} {σ : St} {H : Hp} {W : Wd} {st : Store} {d : D} {y : V} {u : Value} (I : Inv X pins σ H s) (S : Sok X.K L W st H) (R : Rl X.K L W d y) (r : L2.RelV y u)
    (hd : rhsL L.toLs d st = true) : ∃ tb, PySem.W.Looks (model X.prog X.w) s.heap (typeOf u) tb ∧ PySem.W.notFirst X.K (L.cad i) tb = true := by
  have one : ∀ t : String, t ∈ kinds → PySem.W.notFirst X.K (L.cad i) (.type t) = true := fun t ht => by
    have h := G.fo.kt i t hi ht
    unfold PySem.W.kitOne at h
    rw [if_neg (by simp)] at h
    unfold PySem.W.kitCls at h
    dsimp only at h
    split at h
    · unfold PySem.W.notFirst
      rw [h]
      simp
    · cases h
  cases d with
  | non => rw [Rl.non.mp R] at r; cases r; exact ⟨_, PySem.W.Looks.of_pure rfl, one "NoneType" (by decide)⟩
  | bl b => rw [Rl.bl.mp R] at r; cases r; exact ⟨_, PySem.W.Looks.of_pure rfl, one "bool" (by decide)⟩
  | int b => rw [Rl.int.mp R] at r; obtain ⟨t, rfl⟩ := r; exact ⟨_, PySem.W.Looks.of_pure rfl, one "int" (by decide)⟩
  | str b => rw [Rl.str.mp R] at r; obtain ⟨t, rfl⟩ := r; exact ⟨_, PySem.W.Looks.of_pure rfl, one "str" (by decide)⟩
  | tup _ =>
    obtain ⟨a, vs, rfl, h1, _⟩ := Rl.tup.mp R
    obtain ⟨its, _, ⟨o, e, hc, n, _⟩, _⟩ := I.tuple (SqT_mono S.fz h1)
    cases r
    exact ⟨.type "tuple", hc ▸ (PySem.W.Looks.ld e).andThen .now, one "tuple" (by decide)⟩
  | ref m =>
    obtain ⟨a, rfl, h1⟩ := Rl.ref.mp R
    have hd2 : isL (.ref m) st = true := hd
    unfold isL at hd2
    dsimp only at hd2
    split at hd2
    · rename_i xs hc
      obtain ⟨vs, h2, _⟩ := S.cell m _ a hc h1
      cases r
      obtain ⟨_, _, n, _, e⟩ := (show ObjOk X.prog X.w H s.heap a (.lst vs) from I.hok a _ h2)
      exact ⟨.type "list", (PySem.W.Looks.ld e).andThen .now, one "list" (by decide)⟩
    · cases hd2
  | fn _ => cases hd
  | obj j ds =>
    have hd : rhs L.toLs (.obj j ds) = true := by
      have h : (rhs L.toLs (.obj j ds) || false) = true := hd
      rwa [Bool.or_false] at h
    obtain ⟨a, dx, od, rfl, J⟩ := inst_of I S R
    cases r
    refine ⟨_, J.type, ?_⟩
    by_cases hij : i = j
    · subst hij; simp [PySem.W.notFirst]
    · unfold PySem.W.notFirst
      rw [(G.fo.sb j i hd hi (Ne.symm hij)).1]
      simp
theorem eqBool_gen {M : Model} {A : Around} {E : Value → Shared → Prop} {s : Shared} {u v : Value} {Q : Bool → Shared → Prop} (hu : ∀ f t, u ≠ .float f t) (h : u = v → Q true s)
    (h2 : u ≠ v → wpAny M A (richCompare .Eq u v) (fun r s' => ∃ b, r = .bool b ∧ Q b s') E s) : wpAny M A (eqBool u v) Q E s := by
  unfold eqBool
  refine wpAny_holding ?_
  refine wpAny_ite_split (fun hab => ?_) (fun hab => ?_)
  · first
      | exact wpAny_rule (wpAny_pure (h (eq_of_beq hab)))
      | exact wpAny_bind (wpAny_rule (wpAny_pure (h (eq_of_beq hab))))
      | exact wpAny_pure (h (eq_of_beq hab))
  · have hne : u ≠ v := fun e => by subst e; exact absurd (beq_self_eq_true _) hab
    have fin : wpAny M A (richCompare .Eq u v >>= fun r => truthOfDropped r) Q E s := wpAny_bind (wpAny_mono (h2 hne) (fun r s' hr => by
      obtain ⟨b, rfl, q⟩ := hr
      exact wpAny_truthy_bool q) fun _ _ x => x)
    cases u with
    | float f t => exact absurd rfl (hu f t)
    | _ => exact fin
theorem Gd.itemRun (G : Gd L X Wx k c) {A : Around} {pins : List (Addr × Obj)} {s : Shared} {σ : St} {H : Hp} {W : Wd} {st : Store} {d1 d2 : D} {x y : V} {u v : Value} {Q : Bool → Hp → Prop} {r : Res Bool} (I : Inv X pins σ H s) (S : Sok X.K L W st H)
    (R1 : Rl X.K L W d1 x) (R2 : Rl X.K L W d2 y) (r1 : L2.RelV x u) (r2 : L2.RelV y v) (o : Out X.K L Wx W σ (okT Q) (itemR L.toLs d1 d2 st r))
    (h : ∀ Q', Out X.K L Wx W σ (okT Q') r → wpAny (model X.prog X.w) A (richCompare .Eq u v) (BP X pins σ Q' false) X.xe s) :
    wpAny (model X.prog X.w) A (eqBool u v) (TP X pins σ Q) X.xe s := by
  have hfl : ∀ f t, u ≠ .float f t := fun f t e => by
    subst e
    cases d1 with
    | non => rw [Rl.non.mp R1] at r1; cases r1
    | bl b => rw [Rl.bl.mp R1] at r1; cases r1
    | int b => rw [Rl.int.mp R1] at r1; obtain ⟨_, z⟩ := r1; cases z
    | str b => rw [Rl.str.mp R1] at r1; obtain ⟨_, z⟩ := r1; cases z
    | tup _ => obtain ⟨a, vs, rfl, _⟩ := Rl.tup.mp R1; cases r1
    | obj _ _ => obtain ⟨a, dx, vs, rfl, _⟩ := Rl.obj.mp R1; cases r1
    | ref _ => obtain ⟨a, rfl, _⟩ := Rl.ref.mp R1; cases r1
    | fn _ => obtain ⟨rfl, _⟩ := Rl.fn.mp R1; cases r1
  have same : u = v → okC L.toLs d1 = true → okC L.toLs d2 = true → d1 = d2 := fun e h1 h2 => by
    subst e
    have := relV_inj x y u r1 r2
    subst this
    exact Rl.inj I S G.fo.ci h1 h2 R1 R2
  cases r with
  | stuck => exact o.elim
  | ok b st' =>
    unfold itemR at o
    dsimp only at o
    split at o
    · rename_i hc
      refine eqBool_gen hfl (fun e => ?_) (fun _ => wpAny_mono (h Q o) (fun r s' z => ?_) fun _ _ z => z)
      · obtain ⟨e1, e2⟩ := hc.2.2 (same e hc.1 hc.2.1)
        subst e1; subst e2
        exact ⟨H, I, o W H .rfl' S⟩
      · obtain ⟨b', e1, e2⟩ := z
        exact ⟨b', by simpa using e1, e2⟩
    · exact o.elim
  | err xx st' =>
    unfold itemR at o
    dsimp only at o
    split at o
    · rename_i hc
      refine eqBool_gen hfl (fun e => absurd (same e hc.1 hc.2.1) hc.2.2) (fun _ => wpAny_mono (h Q o) (fun r s' z => ?_) fun _ _ z => z)
      obtain ⟨b', e1, e2⟩ := z
      exact ⟨b', by simpa using e1, e2⟩
    · exact o.elim
def Left (X : Cx) (L : Lw) (Wx : WX) (pins : List (Addr × Obj)) (σ : St) (q : D → D → Store → Res Bool) (Q : Bool → Hp → Prop) (xs ys : List D) (vs ws : List V) (i : Nat) (s' : Shared) : Prop :=
  ∃ W st H, Inv X pins σ H s' ∧ Sok X.K L W st H ∧ Rls X.K L W xs vs ∧ Rls X.K L W ys ws ∧ Out X.K L Wx W σ (okT Q) (eqAll L.toLs q (xs.drop i) (ys.drop i) st)
theorem Left.turn {q : D → D → Store → Res Bool} {Q : Bool → Hp → Prop} {xs ys : List D} {vs ws : List V} {pins : List (Addr × Obj)} {σ : St} (G : Gd L X Wx k c) {A : Around} {its its2 : List Value} (r1 : Vals vs its) (r2 : Vals ws its2) {neg : Bool}
    (hq : ∀ pins s σ H W st d1 d2 x y u v Q', Inv X pins σ H s → Sok X.K L W st H → Rl X.K L W d1 x → Rl X.K L W d2 y → L2.RelV x u → L2.RelV y v → Out X.K L Wx W σ (okT Q') (q d1 d2 st) → wpAny (model X.prog X.w) A.in1 (richCompare .Eq u v) (BP X pins σ Q' false) X.xe s)
    (i : Nat) (h1 : i < its.toArray.size) (h2 : i < its2.toArray.size) (s' : Shared) (l : Left X L Wx pins σ q Q xs ys vs ws i s') :
    wpAny (model X.prog X.w) A.in1 (eqBool its.toArray[i] its2.toArray[i]) (fun r s2 => if r = true then Left X L Wx pins σ q Q xs ys vs ws (i + 1) s2 else BP X pins σ Q neg (.bool neg) s2) X.xe s' := by
  obtain ⟨W, st, H, I, S, R1, R2, o⟩ := l
  have k1 : i < its.length := by simpa using h1
  have k2 : i < its2.length := by simpa using h2
  have l1 : i < xs.length := by rw [R1.length, r1.length]; exact k1
  have l2 : i < ys.length := by rw [R2.length, r2.length]; exact k2
  obtain ⟨x, hx, Rx⟩ := R1.get (List.getElem?_eq_getElem l1)
  obtain ⟨y, hy, Ry⟩ := R2.get (List.getElem?_eq_getElem l2)
  obtain ⟨u, hu, ru⟩ := r1.get hx
  obtain ⟨v, hv, rv⟩ := r2.get hy
  rw [List.getElem?_eq_getElem k1] at hu
  rw [List.getElem?_eq_getElem k2] at hv
  have e1 : its.toArray[i] = u := by rw [← Option.some.inj hu]; simp
  have e2 : its2.toArray[i] = v := by rw [← Option.some.inj hv]; simp
  rw [e1, e2]
  rw [List.drop_eq_getElem_cons l1, List.drop_eq_getElem_cons l2] at o
  unfold eqAll at o
  cases hr : itemR L.toLs xs[i] ys[i] st (q xs[i] ys[i] st) with
  | ok b st1 =>
    rw [hr, Res.bind_ok] at o
    refine wpAny_mono (G.itemRun (Q := fun b' H' => b' = b ∧ ∃ W', W.le W' ∧ Sok X.K L W' st1 H') I S Rx Ry ru rv (by rw [hr]; exact fun W' H' e' S' => ⟨rfl, W', e', S'⟩) fun Q' o' => hq pins s' σ H W st _ _ x y u v Q' I S Rx Ry ru rv o') (fun r s2 z => ?_) fun _ _ z => z
    obtain ⟨H2, I2, eb, W2, le2, S2⟩ := z
    subst eb
    cases r with
    | true => exact ⟨W2, st1, H2, I2, S2, R1.mono le2, R2.mono le2, Out.mono le2 o⟩
    | false => exact ⟨false, by cases neg <;> rfl, H2, I2, o W2 H2 le2 S2⟩
  | err xx st1 =>
    rw [hr] at o
    refine wpAny_mono (G.itemRun (Q := fun _ _ => False) I S Rx Ry ru rv (by rw [hr]; exact o) fun Q' o' => hq pins s' σ H W st _ _ x y u v Q' I S Rx Ry ru rv o') (fun r s2 z => ?_) fun _ _ z => z
    obtain ⟨_, _, z⟩ := z
    exact z.elim
  | stuck => rw [hr] at o; exact o.elim
theorem Left.fin {q : D → D → Store → Res Bool} {Q : Bool → Hp → Prop} {xs ys : List D} {vs ws : List V} {pins : List (Addr × Obj)} {σ : St} {its its2 : List Value} (r1 : Vals vs its) (r2 : Vals ws its2) {neg : Bool}
    (i : Nat) (s' : Shared) (l : Left X L Wx pins σ q Q xs ys vs ws i s') (hi : i = min its.toArray.size its2.toArray.size) : BP X pins σ Q neg (.bool ((its.toArray.size == its2.toArray.size) != neg)) s' := by
  obtain ⟨W, st, H, I, S, R1, R2, o⟩ := l
  simp only [List.size_toArray] at hi ⊢
  rw [← r1.length, ← r2.length, ← R1.length, ← R2.length] at hi ⊢
  refine ⟨xs.length == ys.length, rfl, H, I, ?_⟩
  rcases Nat.lt_trichotomy xs.length ys.length with h | h | h
  · have e1 : xs.drop i = [] := List.drop_of_length_le (by omega)
    have l2 : i < ys.length := by omega
    rw [e1, List.drop_eq_getElem_cons l2] at o
    unfold eqAll at o
    have e2 : (xs.length == ys.length) = false := beq_eq_false_iff_ne.mpr (by omega)
    rw [e2]
    exact o W H .rfl' S
  · have e1 : xs.drop i = [] := List.drop_of_length_le (by omega)
    have e3 : ys.drop i = [] := List.drop_of_length_le (by omega)
    rw [e1, e3] at o
    unfold eqAll at o
    have e2 : (xs.length == ys.length) = true := beq_iff_eq.mpr h
    rw [e2]
    exact o W H .rfl' S
  · have e1 : ys.drop i = [] := List.drop_of_length_le (by omega)
    have l2 : i < xs.length := by omega
    rw [e1, List.drop_eq_getElem_cons l2] at o
    unfold eqAll at o
    have e2 : (xs.length == ys.length) = false := beq_eq_false_iff_ne.mpr (by omega)
    rw [e2]
    exact o W H .rfl' S
theorem LeftL.turn {q : D → D → Store → Res Bool} {Q : Bool → Hp → Prop} {st : Store} {xs ys : List D} {m p : Nat} {a b : Addr} {pins : List (Addr × Obj)} {σ : St} (G : Gd L X Wx k c) {A : Around} {neg : Bool} (hN : xs.length = ys.length)
    (hq : ∀ pins s σ H W st d1 d2 x y u v Q', Inv X pins σ H s → Sok X.K L W st H → Rl X.K L W d1 x → Rl X.K L W d2 y → L2.RelV x u → L2.RelV y v → Out X.K L Wx W σ (okT Q') (q d1 d2 st) → wpAny (model X.prog X.w) A.in1 (richCompare .Eq u v) (BP X pins σ Q' false) X.xe s)
    (h1 : st[m]? = some (.lst xs)) (h2 : st[p]? = some (.lst ys)) (i : Nat) (s' : Shared) (l : LeftL X L Wx pins σ q Q st xs ys m p a b i s') :
    ∃ its its2, LsAt s' a xs.length its ∧ LsAt s' b xs.length its2 ∧ ∀ (g1 : i < its.size) (g2 : i < its2.size), wpAny (model X.prog X.w) A.in1 (eqBool its[i] its2[i]) (fun r s2 => if r = true then LeftL X L Wx pins σ q Q st xs ys m p a b (i + 1) s2 else (∃ its its2, LsAt s2 a xs.length its ∧ LsAt s2 b xs.length its2) ∧ BP X pins σ Q neg (.bool neg) s2) X.xe s' := by
  obtain ⟨W, H, I, S, io1, io2, o⟩ := l
  obtain ⟨vs, its, R1, r1, t1⟩ := LeftL.vals I S h1 io1
  obtain ⟨ws, its2, R2, r2, t2⟩ := LeftL.vals I S h2 io2
  rw [← hN] at t2
  refine ⟨its.toArray, its2.toArray, t1, t2, fun g1 g2 => ?_⟩
  have k1 : i < its.length := by simpa using g1
  have k2 : i < its2.length := by simpa using g2
  have l1 : i < xs.length := by rw [R1.length, r1.length]; exact k1
  have l2 : i < ys.length := by rw [R2.length, r2.length]; exact k2
  obtain ⟨x, hx, Rx⟩ := R1.get (List.getElem?_eq_getElem l1)
  obtain ⟨y, hy, Ry⟩ := R2.get (List.getElem?_eq_getElem l2)
  obtain ⟨u, hu, ru⟩ := r1.get hx
  obtain ⟨v, hv, rv⟩ := r2.get hy
  rw [List.getElem?_eq_getElem k1] at hu
  rw [List.getElem?_eq_getElem k2] at hv
  have e1 : its.toArray[i] = u := by rw [← Option.some.inj hu]; simp
  have e2 : its2.toArray[i] = v := by rw [← Option.some.inj hv]; simp
  rw [e1, e2]
  rw [List.drop_eq_getElem_cons l1, List.drop_eq_getElem_cons l2] at o
  unfold eqLs at o
  cases hr : itemR L.toLs xs[i] ys[i] st (q xs[i] ys[i] st) with
  | ok e st1 =>
    rw [hr] at o
    dsimp only at o
    split at o
    · rename_i hst
      rw [hst] at hr
      refine wpAny_mono (G.itemRun (Q := fun b' H' => b' = e ∧ ∃ W', W.le W' ∧ Sok X.K L W' st H') I S Rx Ry ru rv (by rw [hr]; exact fun W' H' e' S' => ⟨rfl, W', e', S'⟩) fun Q' o' => hq pins s' σ H W st _ _ x y u v Q' I S Rx Ry ru rv o') (fun r s2 z => ?_) fun _ _ z => z
      obtain ⟨H2, I2, eb, W2, le2, S2⟩ := z
      subst eb
      cases r with
      | true =>
        simp only [if_true] at o ⊢
        exact ⟨W2, H2, I2, S2, le2.2 _ _ io1, le2.2 _ _ io2, Out.mono le2 o⟩
      | false =>
        simp only [Bool.false_eq_true, if_false] at o ⊢
        obtain ⟨j1, y1⟩ := LeftL.at_ I2 S2 h1 (le2.2 _ _ io1)
        obtain ⟨j2, y2⟩ := LeftL.at_ I2 S2 h2 (le2.2 _ _ io2)
        rw [← hN] at y2
        exact ⟨⟨j1, j2, y1, y2⟩, false, by cases neg <;> rfl, H2, I2, o W2 H2 le2 S2⟩
    · exact o.elim
  | err xx st1 => rw [hr] at o; exact o.elim
  | stuck => rw [hr] at o; exact o.elim
theorem LeftL.fin {q : D → D → Store → Res Bool} {Q : Bool → Hp → Prop} {st : Store} {xs ys : List D} {m p : Nat} {a b : Addr} {pins : List (Addr × Obj)} {σ : St} {neg : Bool} (s' : Shared) (l : LeftL X L Wx pins σ q Q st xs ys m p a b xs.length s') : BP X pins σ Q neg (.bool (!neg)) s' := by
  obtain ⟨W, H, I, S, io1, io2, o⟩ := l
  rw [List.drop_length] at o
  unfold eqLs at o
  exact ⟨true, by cases neg <;> rfl, H, I, o W H .rfl' S⟩
end
end Gm
namespace Gm
open PySem PySem.Spec PyProof.Rows L2
section
variable {L : Lw} {X : Cx} {Wx : WX} {k : Nat} {c : Fn}
noncomputable def eqTu (T : Ls) (q : D → D → Store → Res Bool) (d1 d2 : D) (st : Store) : Res Bool := match d1, d2 with
  | .tup xs, .tup ys => eqAll T q xs ys st
  | .ref m, .ref p => match st[m]?, st[p]? with
    | some (.lst xs), some (.lst ys) => if xs.length = ys.length then eqLs T q st xs ys else .ok false st
    | _, _ => .stuck
  | _, _ => .stuck
noncomputable def eqPl (T : Ls) (q : D → D → Store → Res Bool) (d1 d2 : D) (st : Store) : Res Bool := match pyD 6 st d1, pyD 6 st d2 with
  | some p, some q => if SeqAt.shaped p = true ∧ SeqAt.shaped q = true then .ok (PyData.eqv p q) st else .stuck
  | _, _ => eqTu T q d1 d2 st
noncomputable def eqTop (T : Ls) (c : Fn) (q : D → D → Store → Res Bool) (d1 d2 : D) (st : Store) : Res Bool := match d1 with
  | .obj i _ => match T.meth i 21 with
    | some f => if rhsL T d2 st = true then (callD T c f [d1, d2] st).bind asB else .stuck
    | none => .stuck
  | _ => eqPl T q d1 d2 st
theorem eqD_succ (T : Ls) (n : Nat) (d1 d2 : D) (st : Store) : eqD T c (n + 1) d1 d2 st = eqTop T c (eqD T c n) d1 d2 st := by
  cases d1 <;> rfl
theorem eqTop_case (q : D → D → Store → Res Bool) (d1 d2 : D) (st : Store) : EqCase L c q d1 d2 st (eqTop L.toLs c q d1 d2 st) := by
  have tl : EqCase L c q d1 d2 st (eqTu L.toLs q d1 d2 st) := by
    cases d1 with
    | tup xs => cases d2 with
      | tup ys => exact .tups xs ys rfl rfl rfl
      | _ => exact .no rfl
    | ref m => cases d2 with
      | ref p =>
        unfold eqTu
        dsimp only
        split
        · rename_i xs ys h1 h2
          exact .lsts m p xs ys rfl rfl h1 h2 rfl
        · exact .no rfl
      | _ => exact .no rfl
    | _ => exact .no rfl
  have rest : (∀ i ds, d1 ≠ .obj i ds) → EqCase L c q d1 d2 st (eqPl L.toLs q d1 d2 st) := fun _ => by
    unfold eqPl
    cases h1 : pyD 6 st d1 with
    | none => exact tl
    | some p =>
      cases h2 : pyD 6 st d2 with
      | none => exact tl
      | some p' =>
        dsimp only
        split
        · rename_i hs; exact .plain p p' h1 h2 hs.1 hs.2 rfl
        · exact .no rfl
  cases d1 with
  | obj i ds =>
    unfold eqTop
    dsimp only
    cases hm : L.meth i 21 with
    | none => exact .no rfl
    | some f =>
      dsimp only
      split
      · rename_i hj; exact .own i f ds rfl hm hj rfl
      · exact .no rfl
  | _ => exact rest (fun i ds e => by cases e)
theorem Gd.eqRun (G : Gd L X Wx k c) : ∀ (n : Nat) {A : Around}, Sub X (k + 1 + n) A → ∀ (pins : List (Addr × Obj)) (s : Shared) (σ : St) (H : Hp) (W : Wd) (st : Store) (d1 d2 : D) (x y : V) (u v : Value) (Q : Bool → Hp → Prop),
    Inv X pins σ H s → Sok X.K L W st H → Rl X.K L W d1 x → Rl X.K L W d2 y → L2.RelV x u → L2.RelV y v → Out X.K L Wx W σ (okT Q) (eqD L.toLs c n d1 d2 st) →
    wpAny (model X.prog X.w) A (richCompare .Eq u v) (BP X pins σ Q false) X.xe s
  | 0, A, _, _, _, _, _, _, _, _, _, _, _, _, _, _, _, _, _, _, _, _, o => o.elim
  | n + 1, A, sb, pins, s, σ, H, W, st, d1, d2, x, y, u, v, Q, I, S, R1, R2, r1, r2, o => by
    rw [eqD_succ] at o
    have hu := sb.room.units
    rcases eqTop_case (L := L) (c := c) (eqD L.toLs c n) d1 d2 st with ⟨i, f, ds, e, hm, hd, hr⟩ | ⟨p, p', h1, h2, s1, s2, hr⟩ | ⟨xs, ys, e1, e2, hr⟩ | ⟨m, p, xs, ys, e1, e2, h1, h2, hr⟩ | hr
    · subst e
      rw [hr] at o
      have o2 := asB_bind (X := X) o
      obtain ⟨hC, hF, M⟩ := G.fo.mt i 21 f hm
      obtain ⟨a, dx, od, rfl, J⟩ := inst_of I S R1
      cases r1
      obtain ⟨m, F⟩ := I.fr
      obtain ⟨tb, hb, hn⟩ := G.tyLook hC I S R2 r2 hd
      have hs := M.at_
      rw [G.fo.nm 21 (by decide) (by decide) (by decide)] at hs
      refine PySem.W.cmp_K (op := .Eq) sb.room.units0 F I.ok.mod.kin J hb hn hs M.fn ?_
      refine wpAny_mono (G.callA (sb.mono (by omega)) hF I S (Rls.mk R1 (Rls.mk R2 (Rls.nil.mpr rfl))) (.cons rfl (.cons r2 .nil)) o2) (fun r s' z => ?_) fun _ _ z => z
      obtain ⟨v', H', I', rv, b, rfl, q⟩ := z
      cases rv
      exact ⟨b, by simp, H', I', q⟩
    · rw [hr] at o
      obtain ⟨as, a1⟩ := Dp.reads I p x u (pyD_ok S 6 d1 x p R1 h1) r1
      obtain ⟨bs, a2⟩ := Dp.reads I p' y v (pyD_ok S 6 d2 y p' R2 h2) r2
      refine SeqAt.rcAt_reads a1 a2 (SeqAt.canLay_of_shaped s1) (SeqAt.canLay_of_shaped s2) (SeqAt.room_of_shaped s1 hu) X.prog X.w _ _ ⟨_, by simp, H, I, o W H .rfl' S⟩
    · subst e1; subst e2
      rw [hr] at o
      obtain ⟨a, vs, rfl, h1, h2⟩ := Rl.tup.mp R1
      obtain ⟨b, ws, rfl, h3, h4⟩ := Rl.tup.mp R2
      cases r1
      cases r2
      obtain ⟨its, q1, t1, _⟩ := I.tuple (SqT_mono S.fz h1)
      obtain ⟨its2, q2, t2, _⟩ := I.tuple (SqT_mono S.fz h3)
      refine rc_tupE sb.room.units0 (fun i s' => Left X L Wx pins σ (eqD L.toLs c n) Q xs ys vs ws i s') t1 t2 (fun i g1 g2 s' l => ?_) (fun i s' l e => ?_) ⟨W, st, H, I, S, h2, h4, o⟩
      · exact Left.turn G q1 q2 (neg := false) (fun pins s σ H W st d1 d2 x y u v Q' I S R1 R2 r1 r2 o => Gd.eqRun G n sb.in1 pins s σ H W st d1 d2 x y u v Q' I S R1 R2 r1 r2 o) i g1 g2 s' l
      · have := Left.fin q1 q2 (neg := false) i s' l e
        simpa using this
    · subst e1; subst e2
      rw [hr] at o
      obtain ⟨a, rfl, io1⟩ := Rl.ref.mp R1
      obtain ⟨b, rfl, io2⟩ := Rl.ref.mp R2
      cases r1
      cases r2
      obtain ⟨its, t1⟩ := LeftL.at_ I S h1 io1
      obtain ⟨its2, t2⟩ := LeftL.at_ I S h2 io2
      refine rc_lstE sb.room.units0 (fun i s' => LeftL X L Wx pins σ (eqD L.toLs c n) Q st xs ys m p a b i s') t1 t2 (fun hN i s' l => ?_) (fun hN s' l => ?_) (fun hN => ?_) (fun hN => ?_)
      · exact LeftL.turn G (neg := false) hN (fun pins s σ H W st d1 d2 x y u v Q' I S R1 R2 r1 r2 o => Gd.eqRun G n sb.in1 pins s σ H W st d1 d2 x y u v Q' I S R1 R2 r1 r2 o) h1 h2 i s' l
      · exact LeftL.fin (neg := false) s' l
      · rw [if_pos hN] at o
        exact ⟨W, H, I, S, io1, io2, by rw [List.drop_zero, List.drop_zero]; exact o⟩
      · rw [if_neg hN] at o
        exact ⟨false, rfl, H, I, o W H .rfl' S⟩
    · rw [hr] at o; exact o.elim
theorem Gd.neRun (G : Gd L X Wx k c) (n : Nat) {A : Around} (sb : Sub X (k + 1 + n) A) (pins : List (Addr × Obj)) (s : Shared) (σ : St) (H : Hp) (W : Wd) (st : Store) (d1 d2 : D) (x y : V) (u v : Value) (Q : Bool → Hp → Prop)
    (I : Inv X pins σ H s) (S : Sok X.K L W st H) (R1 : Rl X.K L W d1 x) (R2 : Rl X.K L W d2 y) (r1 : L2.RelV x u) (r2 : L2.RelV y v) (o : Out X.K L Wx W σ (okT Q) (eqD L.toLs c n d1 d2 st)) :
    wpAny (model X.prog X.w) A (richCompare .NotEq u v) (BP X pins σ Q true) X.xe s := by
  cases n with
  | zero => exact o.elim
  | succ n =>
    rw [eqD_succ] at o
    have hu := sb.room.units
    rcases eqTop_case (L := L) (c := c) (eqD L.toLs c n) d1 d2 st with ⟨i, f, ds, e, hm, hd, hr⟩ | ⟨p, p', h1, h2, s1, s2, hr⟩ | ⟨xs, ys, e1, e2, hr⟩ | ⟨m, p, xs, ys, e1, e2, h1, h2, hr⟩ | hr
    · subst e
      rw [hr] at o
      have o2 := asB_bind (X := X) o
      obtain ⟨hC, hF, M⟩ := G.fo.mt i 21 f hm
      obtain ⟨a, dx, od, rfl, J⟩ := inst_of I S R1
      cases r1
      obtain ⟨m, F⟩ := I.fr
      obtain ⟨tb, hb, hn⟩ := G.tyLook hC I S R2 r2 hd
      have hs := M.at_
      rw [G.fo.nm 21 (by decide) (by decide) (by decide)] at hs
      refine ne_K (by have := sb.room.units; omega) F I.ok.mod.kin J hb hn hs M.fn (G.fo.ne i f hm) (G.fo.ob i hC) ?_
      refine wpAny_mono (G.callA (sb.in1.mono (Nat.le_trans (Nat.le_succ k) (Nat.le_add_right _ _))) hF I S (Rls.mk R1 (Rls.mk R2 (Rls.nil.mpr rfl))) (.cons rfl (.cons r2 .nil)) o2) (fun r s' z => ?_) fun _ _ z => z
      obtain ⟨v', H', I', rv, b, rfl, q⟩ := z
      cases rv
      exact ⟨b, rfl, b, by simp, H', I', q⟩
    · rw [hr] at o
      obtain ⟨as, a1⟩ := Dp.reads I p x u (pyD_ok S 6 d1 x p R1 h1) r1
      obtain ⟨bs, a2⟩ := Dp.reads I p' y v (pyD_ok S 6 d2 y p' R2 h2) r2
      have hq : BP X pins σ Q true (.bool (!PyData.eqv p p')) s := ⟨_, by simp, H, I, o W H .rfl' S⟩
      exact SeqAt.compareNe_shaped a1 a2 s1 s2 hu hq
    · subst e1; subst e2
      rw [hr] at o
      obtain ⟨a, vs, rfl, h1, h2⟩ := Rl.tup.mp R1
      obtain ⟨b, ws, rfl, h3, h4⟩ := Rl.tup.mp R2
      cases r1
      cases r2
      obtain ⟨its, q1, t1, _⟩ := I.tuple (SqT_mono S.fz h1)
      obtain ⟨its2, q2, t2, _⟩ := I.tuple (SqT_mono S.fz h3)
      refine rc_tupN sb.room.units0 (fun i s' => Left X L Wx pins σ (eqD L.toLs c n) Q xs ys vs ws i s') t1 t2 (fun i g1 g2 s' l => ?_) (fun i s' l e => ?_) ⟨W, st, H, I, S, h2, h4, o⟩
      · exact Left.turn G q1 q2 (neg := true) (fun pins s σ H W st d1 d2 x y u v Q' I S R1 R2 r1 r2 o => Gd.eqRun G n sb.in1 pins s σ H W st d1 d2 x y u v Q' I S R1 R2 r1 r2 o) i g1 g2 s' l
      · have := Left.fin q1 q2 (neg := true) i s' l e
        simpa using this
    · subst e1; subst e2
      rw [hr] at o
      obtain ⟨a, rfl, io1⟩ := Rl.ref.mp R1
      obtain ⟨b, rfl, io2⟩ := Rl.ref.mp R2
      cases r1
      cases r2
      obtain ⟨its, t1⟩ := LeftL.at_ I S h1 io1
      obtain ⟨its2, t2⟩ := LeftL.at_ I S h2 io2
      refine rc_lstN sb.room.units0 (fun i s' => LeftL X L Wx pins σ (eqD L.toLs c n) Q st xs ys m p a b i s') t1 t2 (fun hN i s' l => ?_) (fun hN s' l => ?_) (fun hN => ?_) (fun hN => ?_)
      · exact LeftL.turn G (neg := true) hN (fun pins s σ H W st d1 d2 x y u v Q' I S R1 R2 r1 r2 o => Gd.eqRun G n sb.in1 pins s σ H W st d1 d2 x y u v Q' I S R1 R2 r1 r2 o) h1 h2 i s' l
      · exact LeftL.fin (neg := true) s' l
      · rw [if_pos hN] at o
        exact ⟨W, H, I, S, io1, io2, by rw [List.drop_zero, List.drop_zero]; exact o⟩
      · rw [if_neg hN] at o
        exact ⟨false, rfl, H, I, o W H .rfl' S⟩
    · rw [hr] at o; exact o.elim
noncomputable def eqB (T : Ls) (c : Fn) (neg : Bool) (d1 d2 : D) (st : Store) : Res D := (eqD T c 6 d1 d2 st).bind fun b st => .ok (.bl (b != neg)) st
theorem Gd.subEq (G : Gd L X Wx k c) : Sub X (k + 1 + 6) X.A := ⟨G.room.mono (by omega), rfl⟩
theorem out_neg {W : Wd} {σ : St} {Q : VK} {neg : Bool} {r : Res Bool} (o : Out X.K L Wx W σ (okE X.K L Q) (r.bind fun b st => .ok (.bl (b != neg)) st)) : Out X.K L Wx W σ (okT fun b H => Q (.bl (b != neg)) H) r := by
  cases r with
  | ok b st => exact fun W' H' e' S' => o W' H' e' S' _ (Rl.bl.mpr rfl)
  | err x st => exact o
  | stuck => exact o
theorem BP.ep {pins : List (Addr × Obj)} {σ : St} {Q : VK} {neg : Bool} {u : Value} {s : Shared} (h : BP X pins σ (fun b H => Q (.bl (b != neg)) H) neg u s) : EP X pins σ Q u s := by
  obtain ⟨b, rfl, H, I, q⟩ := h
  exact ⟨.bl (b != neg), H, I, rfl, q⟩
theorem r2_eq (G : Gd L X Wx k c) : R2v L X Wx (compareOp .Eq) (eqB L.toLs c false) := fun pins s σ H W st d1 d2 x y v u Q I S R1 R2 r1 r2 o =>
  wpAny_mono (G.eqRun 6 G.subEq pins s σ H W st d1 d2 x y v u _ I S R1 R2 r1 r2 (out_neg o)) (fun _ _ z => BP.ep z) fun _ _ z => z
theorem r2_ne (G : Gd L X Wx k c) : R2v L X Wx (compareOp .NotEq) (eqB L.toLs c true) := fun pins s σ H W st d1 d2 x y v u Q I S R1 R2 r1 r2 o =>
  wpAny_mono (G.neRun 6 G.subEq pins s σ H W st d1 d2 x y v u _ I S R1 R2 r1 r2 (out_neg o)) (fun _ _ z => BP.ep z) fun _ _ z => z
def isNo (neg : Bool) (d1 d2 : D) (st : Store) : Res D := match d2 with
  | .non => match d1 with
    | .non => .ok (.bl (!neg)) st
    | _ => .ok (.bl neg) st
  | .bl b => match d1 with
    | .bl a => .ok (.bl ((a == b) != neg)) st
    | _ => .stuck
  | _ => .stuck
def D.isN : D → Bool
  | .non => true
  | _ => false
theorem non_iff {K : PySem.W.Frag} {W : Wd} {d : D} {x : V} (R : Rl K L W d x) : decide (x = .non) = d.isN := by
  cases d with
  | non => rw [Rl.non.mp R]; rfl
  | bl b => rw [Rl.bl.mp R]; rfl
  | int b => rw [Rl.int.mp R]; rfl
  | str b => rw [Rl.str.mp R]; rfl
  | tup _ => obtain ⟨a, vs, rfl, _⟩ := Rl.tup.mp R; rfl
  | obj _ _ => obtain ⟨a, dx, vs, rfl, _⟩ := Rl.obj.mp R; rfl
  | ref _ => obtain ⟨a, rfl, _⟩ := Rl.ref.mp R; rfl
  | fn _ => obtain ⟨rfl, _⟩ := Rl.fn.mp R; rfl
theorem r2_is : R2v L X Wx (compareOp .Is) (isNo false) := fun pins s σ H W st d1 d2 x y v u Q I S R1 R2 r1 r2 o => by
  cases d2 with
  | non =>
    refine op_isN pins s σ H x y v u Q I r1 r2 ⟨Rl.non.mp R2, ?_⟩
    rw [non_iff R1]
    cases d1 <;> exact o W H .rfl' S _ (Rl.bl.mpr rfl)
  | bl b =>
    cases d1 with
    | bl a =>
      refine op_is_bl pins s σ H x y v u Q I r1 r2 ⟨a, b, Rl.bl.mp R1, Rl.bl.mp R2, ?_⟩
      have e := o W H .rfl' S _ (Rl.bl.mpr rfl)
      cases a <;> cases b <;> exact e
    | _ => exact o.elim
  | _ => exact o.elim
def truD (T : Ls) (c : Fn) (d : D) (st : Store) : Res Bool := match d with
  | .non => .ok false st
  | .bl b => .ok b st
  | .int i => .ok (i != 0) st
  | .str x => if x.length ≤ sizeLine then .ok ((x.length : Int) != 0) st else .stuck
  | .tup ds => .ok (!ds.isEmpty) st
  | .ref n => match st[n]? with
    | some (.lst ds) => .ok (!ds.isEmpty) st
    | some (.dic kvs) => .ok (!kvs.isEmpty) st
    | _ => .stuck
  | .obj i _ => match T.meth i 34 with
    | some f => (callD T c f [d] st).bind asB
    | none => if T.isC i = true ∧ T.meth i 38 = none then .ok true st else .stuck
  | .fn _ => .stuck
theorem isEmpty_rls {K : PySem.W.Frag} {W : Wd} {ds : List D} {vs : List V} (h : Rls K L W ds vs) : vs.isEmpty = ds.isEmpty := by
  cases ds with
  | nil => rw [Rls.nil.mp h]; rfl
  | cons d ds => obtain ⟨_, _, rfl, _⟩ := Rls.cons.mp h; rfl
theorem rtv_tru (G : Gd L X Wx k c) : Rtv L X Wx (truD L.toLs c) := fun pins s σ H W st d x v Q I S R r o => by
  have tr : ∀ b, TruV X.K x H b → Out X.K L Wx W σ (okT Q) (.ok b st) → wpAny (model X.prog X.w) X.A (truthy v) (TP X pins σ Q) X.xe s := fun b h o => tru_ok pins s σ H x v Q I r ⟨_, h, o W H .rfl' S⟩
  cases d with
  | non => obtain rfl := Rl.non.mp R; exact tr _ rfl o
  | bl b => obtain rfl := Rl.bl.mp R; exact tr _ rfl o
  | int b => obtain rfl := Rl.int.mp R; exact tr _ rfl o
  | str z =>
    obtain rfl := Rl.str.mp R
    unfold truD at o
    dsimp only at o
    split at o
    · rename_i hz; exact tr _ ⟨hz, rfl⟩ o
    · exact o.elim
  | tup ds =>
    obtain ⟨a, vs, rfl, h1, h2⟩ := Rl.tup.mp R
    exact tr _ (.inr (.inl ⟨vs, SqT_mono S.fz h1, rfl⟩)) (by rw [isEmpty_rls h2]; exact o)
  | ref n =>
    obtain ⟨a, rfl, h1⟩ := Rl.ref.mp R
    unfold truD at o
    dsimp only at o
    split at o
    · rename_i ds hn
      obtain ⟨vs, h2, h3⟩ := S.cell n _ a hn h1
      exact tr _ (.inl ⟨vs, .inl (.inl h2), rfl⟩) (by rw [isEmpty_rls h3]; exact o)
    · rename_i kvs hn
      obtain ⟨vs, h2, h3⟩ := S.cell n _ a hn h1
      exact tr _ (.inr (.inr ⟨vs, h2, rfl⟩)) (by cases h3 <;> exact o)
    · exact o.elim
  | fn n => exact o.elim
  | obj i ds =>
    obtain ⟨a, dx, od, rfl, J⟩ := inst_of I S R
    cases r
    obtain ⟨m, F⟩ := I.fr
    unfold truD at o
    dsimp only at o
    split at o
    · rename_i f hm
      obtain ⟨hC, hF, M⟩ := G.fo.mt i 34 f hm
      have hs := M.at_
      rw [G.fo.nm 34 (by decide) (by decide) (by decide)] at hs
      refine PySem.W.truthy_K F I.ok.mod.kin J hs M.fn ?_
      refine wpAny_mono (G.call hF I S (Rls.mk R (Rls.nil.mpr rfl)) (.cons rfl .nil) (asB_bind (X := X) o)) (fun r s' z => ?_) fun _ _ z => z
      obtain ⟨v', H', I', rv, b, rfl, q⟩ := z
      cases rv
      exact ⟨H', I', q⟩
    · rename_i hm
      split at o
      · rename_i hc
        obtain ⟨b1, b2⟩ := G.fo.tb i hc.1 hm hc.2
        exact PySem.W.truthy_K0 F I.ok.mod.kin J b1 b2 ⟨H, I, o W H .rfl' S⟩
      · exact o.elim
end
end Gm
namespace Gm
open PySem PySem.Spec PyProof.Rows L2
section
variable {L : Lw} {X : Cx} {Wx : WX} {k : Nat} {c : Fn}
def intLeft : Operator → Bool
  | .Add => true | .Sub => true | .Mult => true | .FloorDiv => true | .Mod => true | _ => false
open Classical in
noncomputable def binD (T : Ls) (c : Fn) (op : Operator) (d1 d2 : D) (st : Store) : Res D := match d1 with
  | .int i => match d2 with
    | .int j => intBin op i j st
    | .obj j _ => match T.meth j (opr op) with
      | some f => if intLeft op = true ∧ (T.meth j (opn op)).isSome = true then callD T c f [d2, d1] st else .stuck
      | none => .stuck
    | _ => .stuck
  | .obj i _ => match T.meth i (opn op) with
    | some f => match d2 with
      | .obj j _ => if j ≠ i ∧ T.ni f j = true then (match T.meth j (opr op) with
          | some g => if opn op ≠ 0 ∧ T.isC j = true ∧ (T.meth j (opn op)).isSome = true ∧ T.dfl f = [[]] ∧ (T.fps f).length = 2 ∧ c (f + niB) [d1, d2] st = .ok (.bl true) st then callD T c g [d2, d1] st else .stuck
          | none => .stuck)
        else if opn op ≠ 0 ∧ (j = i ∨ (T.isC j = true ∧ (T.meth j (opn op)).isSome = true)) then callD T c f [d1, d2] st else .stuck
      | .int _ => if opn op ≠ 0 then callD T c f [d1, d2] st else .stuck
      | _ => .stuck
    | none => .stuck
  | .str x => match d2 with
    | .str y => if op = .Add ∧ x.length + y.length ≤ sizeLine then .ok (.str (x ++ y)) st else .stuck
    | .int n => if op = .Mult ∧ MulOk x n then .ok (.str (Txt.mul x n)) st else .stuck
    | _ => .stuck
  | .ref m => match st[m]?, d2 with
    | some (.lst xs), .ref n => match st[n]? with
      | some (.lst ys) => if op = .Add ∧ xs.length + ys.length ≤ sizeLine then newLst (xs ++ ys) st else .stuck
      | _ => .stuck
    | some (.lst xs), .int z => if op = .Mult ∧ -(2 ^ 63) ≤ z ∧ z < 2 ^ 63 ∧ xs.length * z.toNat ≤ sizeLine then newLst (List.replicate z.toNat xs).flatten st else .stuck
    | _, _ => .stuck
  | .tup xs => match d2 with
    | .tup ys => if op = .Add ∧ xs ≠ [] ∧ xs.length + ys.length ≤ sizeLine then .ok (.tup (xs ++ ys)) st else .stuck
    | _ => .stuck
  | _ => .stuck
theorem CmpBack_of {Q : Value → Shared → Prop} {pins : List (Addr × Obj)} {σ : St} {Q' : VK} {v : Value} {s : Shared} (h : EP X pins σ Q' v s) (hq : EP X pins σ Q' v s → Q v s) : PySem.W.CmpBack Q v s := by
  obtain ⟨x, H, I, r, q⟩ := id h
  have : v ≠ .notImplemented := fun e => by
    subst e
    have := decV_of r
    cases this
  cases v <;> first | exact absurd rfl this | exact hq h
theorem rls_flat {K : PySem.W.Frag} {W : Wd} {xs : List D} {vs : List V} (R : Rls K L W xs vs) : ∀ n : Nat, Rls K L W (List.replicate n xs).flatten (List.replicate n vs).flatten
  | 0 => Rls.nil.mpr rfl
  | n + 1 => by
    rw [List.replicate_succ, List.flatten_cons, List.replicate_succ, List.flatten_cons]
    exact R.append (rls_flat R n)
theorem r2_bin (G : Gd L X Wx k c) (op : Operator) : R2v L X Wx (binaryOp op) (binD L.toLs c op) := fun pins s σ H W st d1 d2 x y v u Q I S R1 R2 r1 r2 o => by
  have G0 := G
  obtain ⟨m, F⟩ := I.fr
  cases d1 with
  | int i =>
    obtain rfl := Rl.int.mp R1
    obtain ⟨t, rfl⟩ := r1
    cases d2 with
    | int j =>
      obtain rfl := Rl.int.mp R2
      obtain ⟨t', rfl⟩ := r2
      exact intBin_ok I S o
    | obj j ds =>
      unfold binD at o
      dsimp only at o
      cases hm : L.meth j (opr op) with
      | none => rw [hm] at o; exact o.elim
      | some f =>
        rw [hm] at o
        dsimp only at o
        split at o
        · rename_i hc
          obtain ⟨g, hg⟩ := Option.isSome_iff_exists.mp hc.2
          obtain ⟨a, dx, od, rfl, J⟩ := inst_of I S R2
          cases r2
          have hop : opn op ≠ 0 := fun z => by cases op <;> first | exact absurd hc.1 (by decide) | exact absurd z (by decide)
          obtain ⟨hC, hF, M⟩ := G.fo.mt j _ f hm
          obtain ⟨_, _, M2⟩ := G.fo.mt j _ g hg
          obtain ⟨n1, n2, n3⟩ := opn_name hop
          obtain ⟨n4, n5, n6, n7⟩ := opr_name hop
          have hs := M.at_
          rw [G.fo.nm _ n7 n6 n5, n4] at hs
          have hs2 := M2.at_
          rw [G.fo.nm _ hop n3 n2, n1] at hs2
          have hcall := wpAny_mono (G.call hF I S (Rls.mk R2 (Rls.mk (Rl.int.mpr rfl) (Rls.nil.mpr rfl))) (.cons rfl (.cons (show L2.RelV (.int i) (.int i t) from ⟨t, rfl⟩) .nil)) o) (fun r s' z => CmpBack_of (X := X) (Q := EP X pins σ Q) z id) (fun _ _ z => z)
          have sT := (G.fo.sT j hC).2
          cases op <;> first
            | exact absurd hc.1 (by decide)
            | exact int_own io_add F I.ok.mod.kin J (G.fo.cl j hC).first hs2 hs M.fn sT hcall
            | exact int_own io_sub F I.ok.mod.kin J (G.fo.cl j hC).first hs2 hs M.fn sT hcall
            | exact int_own io_mul F I.ok.mod.kin J (G.fo.cl j hC).first hs2 hs M.fn sT hcall
            | exact int_own io_floordiv F I.ok.mod.kin J (G.fo.cl j hC).first hs2 hs M.fn sT hcall
            | exact int_own io_mod F I.ok.mod.kin J (G.fo.cl j hC).first hs2 hs M.fn sT hcall
        · exact o.elim
    | _ => exact o.elim
  | obj i ds =>
    unfold binD at o
    dsimp only at o
    cases hm : L.meth i (opn op) with
    | none => rw [hm] at o; exact o.elim
    | some f =>
      rw [hm] at o
      dsimp only at o
      obtain ⟨a, dx, od, rfl, J⟩ := inst_of I S R1
      cases r1
      obtain ⟨hC, hF, M⟩ := G.fo.mt i _ f hm
      cases d2 with
      | obj j es =>
        dsimp only at o
        by_cases hni : j ≠ i ∧ L.ni f j = true
        · rw [if_pos hni] at o
          cases hm2 : L.meth j (opr op) with
          | none => rw [hm2] at o; exact o.elim
          | some g =>
            rw [hm2] at o
            dsimp only at o
            split at o
            · rename_i hc
              obtain ⟨hc, hC2, hg, hdf, hps, hcn⟩ := hc
              obtain ⟨n1, n2, n3⟩ := opn_name hc
              obtain ⟨m1, m2, m3, m4⟩ := opr_name hc
              have hs := M.at_
              rw [G.fo.nm _ hc n3 n2, n1] at hs
              obtain ⟨b, dy, od2, rfl, J2⟩ := inst_of I S R2
              cases r2
              obtain ⟨g2, hg⟩ := Option.isSome_iff_exists.mp hg
              obtain ⟨_, _, M2⟩ := G.fo.mt j _ g2 hg
              have hs2 := M2.at_
              rw [G.fo.nm _ hc n3 n2, n1] at hs2
              obtain ⟨_, hF3, M3⟩ := G.fo.mt j _ g hm2
              have hr2 := M3.at_
              rw [G.fo.nm _ m4 m3 m2, m1] at hr2
              obtain ⟨rc, hr, hp⟩ := G.fo.rf i op hC hc
              obtain ⟨q1, q2⟩ := G.fo.sb j i hC2 hC hni.1
              refine own_ni F I.ok.mod.kin J J2 (fun e => q2 e.symm) (G.fo.cl i hC).first (G.fo.cl j hC2).first hs M.fn hr hp hs2 hr2 M3.fn q1 ?_
              refine wpAny_mono (G.callN hF I S (Rls.mk R1 (Rls.mk R2 (Rls.nil.mpr rfl))) (.cons rfl (.cons rfl .nil)) (by rw [hdf]; exact List.mem_singleton.mpr rfl) hps.symm hcn) (fun v' s' z => ?_) fun _ _ z => z
              obtain ⟨e0, W', H', e', I', S'⟩ := z
              have R1' := R1.mono e'
              have R2' := R2.mono e'
              obtain ⟨a1, dx1, od1, ea1, Ja⟩ := inst_of I' S' R1'
              cases ea1
              obtain ⟨b1, dx2, od3, eb1, Jb⟩ := inst_of I' S' R2'
              cases eb1
              refine ⟨e0, I'.kIn, ⟨_, _, Ja⟩, ⟨_, _, Jb⟩, ?_⟩
              exact wpAny_mono (G.call hF3 I' S' (Rls.mk R2' (Rls.mk R1' (Rls.nil.mpr rfl))) (.cons rfl (.cons rfl .nil)) (Out.mono e' o)) (fun r s' z => CmpBack_of (X := X) (Q := EP X pins σ Q) z id) (fun _ _ z => z)
            · exact o.elim
        rw [if_neg hni] at o
        split at o
        · rename_i hc
          obtain ⟨n1, n2, n3⟩ := opn_name hc.1
          have hs := M.at_
          rw [G.fo.nm _ hc.1 n3 n2, n1] at hs
          obtain ⟨b, dy, od2, rfl, J2⟩ := inst_of I S R2
          cases r2
          have hcall := wpAny_mono (G.call hF I S (Rls.mk R1 (Rls.mk R2 (Rls.nil.mpr rfl))) (.cons rfl (.cons rfl .nil)) o) (fun r s' z => CmpBack_of (X := X) (Q := EP X pins σ Q) z id) (fun _ _ z => z)
          by_cases hij : j = i
          · subst hij
            exact PySem.W.binop_K F I.ok.mod.kin J J2.type (G.fo.cl j hC).first hs M.fn hcall
          · obtain ⟨hC2, hg⟩ := hc.2.resolve_left hij
            obtain ⟨g, hg⟩ := Option.isSome_iff_exists.mp hg
            obtain ⟨_, _, M2⟩ := G.fo.mt j _ g hg
            have hs2 := M2.at_
            rw [G.fo.nm _ hc.1 n3 n2, n1] at hs2
            obtain ⟨rc, hr, hp⟩ := G.fo.rf i op hC hc.1
            obtain ⟨rc2, hr2, hp2⟩ := G.fo.rf j op hC2 hc.1
            obtain ⟨q1, q2⟩ := G.fo.sb j i hC2 hC hij
            exact own_own F I.ok.mod.kin J J2 (fun e => q2 e.symm) (G.fo.cl i hC).first (G.fo.cl j hC2).first hs M.fn hr hp hs2 hr2 hp2 q1 hcall
        · exact o.elim
      | int j =>
        dsimp only at o
        split at o
        · rename_i hc
          obtain ⟨n1, n2, n3⟩ := opn_name hc
          have hs := M.at_
          rw [G.fo.nm _ hc n3 n2, n1] at hs
          obtain rfl := Rl.int.mp R2
          obtain ⟨t', rfl⟩ := id r2
          have hcall := wpAny_mono (G.call hF I S (Rls.mk R1 (Rls.mk R2 (Rls.nil.mpr rfl))) (.cons rfl (.cons r2 .nil)) o) (fun r s' z => CmpBack_of (X := X) (Q := EP X pins σ Q) z id) (fun _ _ z => z)
          obtain ⟨rc, hr, hp⟩ := G.fo.rf i op hC hc
          obtain ⟨fo, ro, h1, h2⟩ := G.fo.bi op hc
          exact PySem.W.ksp_binT F I.ok.mod.kin J rfl (G.fo.cl i hC).first hs M.fn hr hp h1 h2 (G.fo.sT i hC).1 hcall
        · exact o.elim
      | _ => exact o.elim
  | str z =>
    cases d2 with
    | str z2 =>
      unfold binD at o
      dsimp only at o
      split at o
      · rename_i hc
        obtain ⟨rfl, hz⟩ := hc
        exact op_add_str pins s σ H x y v u Q I r1 r2 ⟨z, z2, Rl.str.mp R1, Rl.str.mp R2, hz, o W H .rfl' S _ (Rl.str.mpr rfl)⟩
      · exact o.elim
    | int n =>
      unfold binD at o
      dsimp only at o
      split at o
      · rename_i hc
        obtain ⟨rfl, hz⟩ := hc
        obtain rfl := Rl.str.mp R1
        obtain rfl := Rl.int.mp R2
        obtain ⟨t1, rfl⟩ := id r1
        obtain ⟨t2, rfl⟩ := id r2
        exact SB.mul hz fun t' k => EP.of_ok (K := X.K) (I.tok _) S (Rl.str.mpr rfl) ⟨t', rfl⟩ o
      · exact o.elim
    | _ => exact o.elim
  | tup xs =>
    cases d2 with
    | tup ys =>
      unfold binD at o
      dsimp only at o
      split at o
      · rename_i hc
        obtain ⟨rfl, hne, hz⟩ := hc
        obtain ⟨a, vs, rfl, h1, h2⟩ := Rl.tup.mp R1
        obtain ⟨b, ws, rfl, h3, h4⟩ := Rl.tup.mp R2
        have e1 : vs ≠ [] := fun z => hne (by subst z; exact List.eq_nil_of_length_eq_zero h2.length)
        refine op_catT pins s σ H _ _ v u Q I r1 r2 ⟨a, b, vs, ws, rfl, rfl, SqT_mono S.fz h1, SqT_mono S.fz h3, e1, by rw [← h2.length, ← h4.length]; exact hz, fun z => ?_, fun z p hp => ?_⟩
        · have : ys = [] := by subst z; exact List.eq_nil_of_length_eq_zero h4.length
          subst this
          rw [List.append_nil] at o
          exact o W H .rfl' S _ R1
        · obtain ⟨e2, S2⟩ := S.alloc_fz (o := .tup (vs ++ ws)) hp
          exact o _ _ e2 S2 _ (Rl.tup.mpr ⟨p, vs ++ ws, rfl, .inl (.inl (by show upd _ _ _ _ = _; exact upd_same)), (h2.mono e2).append (h4.mono e2)⟩)
      · exact o.elim
    | _ => exact o.elim
  | ref n =>
    obtain ⟨a, rfl, h1⟩ := Rl.ref.mp R1
    unfold binD at o
    dsimp only at o
    split at o
    · rename_i xs n2 hn
      split at o
      · rename_i ys hn2
        split at o
        · rename_i hc
          obtain ⟨rfl, hz⟩ := hc
          obtain ⟨b, rfl, h3⟩ := Rl.ref.mp R2
          obtain ⟨vs, h4, h5⟩ := S.cell n _ a hn h1
          obtain ⟨ws, h6, h7⟩ := S.cell n2 _ b hn2 h3
          refine op_cat pins s σ H _ _ v u Q I r1 r2 ⟨a, b, vs, ws, rfl, rfl, h4, h6, by rw [← h5.length, ← h7.length]; exact hz, fun p hp => ?_⟩
          exact o _ _ Wd.le_more (S.ofNew hp (h5.append h7)) _ (Rl.newRef S)
        · exact o.elim
      · exact o.elim
    · rename_i xs z hn
      split at o
      · rename_i hc
        obtain ⟨rfl, hz1, hz2, hz⟩ := hc
        obtain ⟨vs, h4, h5⟩ := S.cell n _ a hn h1
        refine op_rep pins s σ H _ _ v u Q I r1 r2 ⟨a, z, vs, rfl, Rl.int.mp R2, h4, hz1, hz2, by rw [← h5.length]; exact hz, fun p hp => ?_⟩
        exact o _ _ Wd.le_more (S.ofNew hp (rls_flat h5 z.toNat)) _ (Rl.newRef S)
      · exact o.elim
    · exact o.elim
  | _ => exact o.elim
def negD (T : Ls) (c : Fn) (d : D) (st : Store) : Res D := match d with
  | .int i => .ok (.int (-i)) st
  | .obj i _ => match T.meth i 31 with
    | some f => callD T c f [d] st
    | none => .stuck
  | _ => .stuck
theorem r1_neg (G : Gd L X Wx k c) : R1v L X Wx (unaryOp .USub) (negD L.toLs c) := fun pins s σ H W st d x v Q I S R r o => by
  cases d with
  | int i => exact un_neg pins s σ H x v Q I r ⟨i, Rl.int.mp R, o W H .rfl' S _ (Rl.int.mpr rfl)⟩
  | obj i ds =>
    unfold negD at o
    dsimp only at o
    split at o
    · rename_i f hm
      obtain ⟨a, dx, od, rfl, J⟩ := inst_of I S R
      cases r
      obtain ⟨m, F⟩ := I.fr
      obtain ⟨hC, hF, M⟩ := G.fo.mt i 31 f hm
      have hs := M.at_
      rw [G.fo.nm 31 (by decide) (by decide) (by decide)] at hs
      exact PySem.W.ksp_neg F I.ok.mod.kin J hs M.fn (G.call hF I S (Rls.mk R (Rls.nil.mpr rfl)) (.cons rfl .nil) o)
    · exact o.elim
  | _ => exact o.elim
def intsOf : List D → Option (List Int)
  | [] => some []
  | d :: ds => match d with
    | .int i => (intsOf ds).map (i :: ·)
    | _ => none
section
variable {L : Lw}
theorem intsOf_ok {K : PySem.W.Frag} {W : Wd} : ∀ {ds : List D} {vs : List V} {ns : List Int}, Rls K L W ds vs → intsOf ds = some ns → vs = ns.map V.int
  | [], vs, ns, R, h => by rw [Rls.nil.mp R]; cases h; rfl
  | d :: ds, vs, ns, R, h => by
    obtain ⟨v, vs', rfl, R1, R2⟩ := Rls.cons.mp R
    unfold intsOf at h
    cases d with
    | int i =>
      obtain ⟨ms, h1, rfl⟩ := Option.map_eq_some_iff.mp h
      rw [Rl.int.mp R1, intsOf_ok R2 h1]
      rfl
    | _ => cases h
end
def ordT (op : CmpOp) (ns ms : List Int) : Option Bool := match op with
  | .Lt => some (HT.lexLt ns ms)
  | .LtE => some (Ob.lexAt (fun j => decide (ns.getD j 0 = ms.getD j 0)) (fun j => decide (ns.getD j 0 ≤ ms.getD j 0)) (decide (ns.length ≤ ms.length)) 0 (min ns.length ms.length))
  | _ => none
def ltI : CmpOp → Int → Int → Option Bool
  | .Lt, i, j => some (decide (i < j)) | .LtE, i, j => some (decide (i ≤ j)) | .Gt, i, j => some (decide (j < i)) | .GtE, i, j => some (decide (j ≤ i)) | _, _, _ => none
def isOrd : CmpOp → Bool
  | .Lt => true | .LtE => true | .Gt => true | .GtE => true | _ => false
def ordD (T : Ls) (c : Fn) (op : CmpOp) (d1 d2 : D) (st : Store) : Res D := match d1 with
  | .int i => match d2 with
    | .int j => match ltI op i j with
      | some b => .ok (.bl b) st
      | none => .stuck
    | .obj j _ => match T.meth j (cmr op) with
      | some f => if isOrd op = true then callD T c f [d2, .int i] st else .stuck
      | none => .stuck
    | _ => .stuck
  | .tup xs => match d2 with
    | .tup ys => match intsOf xs with
      | some ns => match intsOf ys with
        | some ms => match ordT op ns ms with
          | some b => .ok (.bl b) st
          | none => .stuck
        | none => .stuck
      | none => .stuck
    | _ => .stuck
  | .obj i _ => match T.meth i (cmn op) with
    | some f => if isOrd op = true ∧ rhs T d2 = true then callD T c f [d1, d2] st else .stuck
    | none => .stuck
  | _ => .stuck
theorem icOf {op : CmpOp} (h : isOrd op = true) : ∃ B id, IC.IntCmp op B id := by
  cases op with
  | Lt => exact ⟨_, _, IC.ic_lt⟩
  | LtE => exact ⟨_, _, IC.ic_le⟩
  | Gt => exact ⟨_, _, IC.ic_gt⟩
  | GtE => exact ⟨_, _, IC.ic_ge⟩
  | _ => cases h
set_option maxHeartbeats 2000000 in
theorem r2_ord (G : Gd L X Wx k c) (op : CmpOp) : R2v L X Wx (compareOp op) (ordD L.toLs c op) := fun pins s σ H W st d1 d2 x y v u Q I S R1 R2 r1 r2 o => by
  cases d1 with
  | int i =>
    cases d2 with
    | int j =>
      have hx := Rl.int.mp R1
      have hy := Rl.int.mp R2
      cases op with
      | Lt => exact op_lt pins s σ H x y v u Q I r1 r2 ⟨i, j, hx, hy, o W H .rfl' S _ (Rl.bl.mpr rfl)⟩
      | LtE => exact op_le pins s σ H x y v u Q I r1 r2 ⟨i, j, hx, hy, o W H .rfl' S _ (Rl.bl.mpr rfl)⟩
      | Gt => exact op_gt pins s σ H x y v u Q I r1 r2 ⟨i, j, hx, hy, o W H .rfl' S _ (Rl.bl.mpr rfl)⟩
      | GtE => exact op_ge pins s σ H x y v u Q I r1 r2 ⟨i, j, hx, hy, o W H .rfl' S _ (Rl.bl.mpr rfl)⟩
      | _ => exact o.elim
    | obj j ds =>
      unfold ordD at o
      dsimp only at o
      cases hm : L.meth j (cmr op) with
      | none => rw [hm] at o; exact o.elim
      | some f =>
        rw [hm] at o
        dsimp only at o
        split at o
        · rename_i hc
          obtain ⟨a, dx, od, rfl, J⟩ := inst_of I S R2
          cases r2
          have hx := Rl.int.mp R1
          subst hx
          obtain ⟨t, rfl⟩ := r1
          obtain ⟨m, F⟩ := I.fr
          obtain ⟨hC, hF, M⟩ := G.fo.mt j _ f hm
          have hs := M.at_
          have hname : L.nm (cmr op) = (cmpInfo op).2.2 := by
            rw [G.fo.nm _ (by cases op <;> first | decide | exact absurd hc (by decide)) (by cases op <;> decide) (by cases op <;> first | decide | exact absurd hc (by decide))]
            cases op <;> first | rfl | exact absurd hc (by decide)
          rw [hname] at hs
          have hcall := wpAny_mono (G.call hF I S (Rls.mk R2 (Rls.mk R1 (Rls.nil.mpr rfl))) (.cons rfl (.cons ⟨t, rfl⟩ .nil)) o) (fun r s' z => CmpBack_of (X := X) (Q := EP X pins σ Q) z id) (fun _ _ z => z)
          have hop : op ≠ .Is ∧ op ≠ .IsNot := ⟨fun e => (by rw [e] at hc; exact absurd hc (by decide)), fun e => (by rw [e] at hc; exact absurd hc (by decide))⟩
          obtain ⟨Bn, idn, ic⟩ := icOf hc
          have key := IC.int_cmp (i := i) (t := t) ic G.room.units0 F I.ok.mod.kin J hs M.fn (G.fo.sT j hC).2 hcall hop
          cases op <;> first | exact key | exact absurd hc (by decide)
        · exact o.elim
    | _ => exact o.elim
  | tup xs =>
    cases d2 with
    | tup ys =>
      unfold ordD at o
      dsimp only at o
      split at o
      · rename_i ns hn
        split at o
        · rename_i ms hm
          split at o
          · rename_i b hb
            obtain ⟨a1, vs, rfl, h1, h2⟩ := Rl.tup.mp R1
            obtain ⟨a2, ws, rfl, h3, h4⟩ := Rl.tup.mp R2
            have e1 := intsOf_ok h2 hn
            have e2 := intsOf_ok h4 hm
            subst e1; subst e2
            have k1 := SqT_mono S.fz h1
            have k2 := SqT_mono S.fz h3
            have oo := o W H .rfl' S _ (Rl.bl.mpr rfl)
            cases op with
            | Lt => cases hb; exact op_ltT G.room.units0 pins s σ H _ _ v u Q I r1 r2 ⟨a1, a2, ns, ms, rfl, rfl, k1, k2, oo⟩
            | LtE => cases hb; exact op_leT G.room.units0 pins s σ H _ _ v u Q I r1 r2 ⟨a1, a2, ns, ms, rfl, rfl, k1, k2, oo⟩
            | _ => cases hb
          · exact o.elim
        · exact o.elim
      · exact o.elim
    | _ => exact o.elim
  | obj i ds =>
    unfold ordD at o
    dsimp only at o
    cases hm : L.meth i (cmn op) with
    | none => rw [hm] at o; exact o.elim
    | some f =>
      rw [hm] at o
      dsimp only at o
      split at o
      · rename_i hc
        obtain ⟨a, dx, od, rfl, J⟩ := inst_of I S R1
        cases r1
        obtain ⟨m, F⟩ := I.fr
        obtain ⟨hC, hF, M⟩ := G.fo.mt i _ f hm
        obtain ⟨tb, hb, hn⟩ := G.tyLook hC I S R2 r2 (rhsL_of _ hc.2)
        have hs := M.at_
        have hname : L.nm (cmn op) = (cmpInfo op).2.1 := by
          rw [G.fo.nm _ (by cases op <;> first | decide | exact absurd hc.1 (by decide)) (by cases op <;> decide) (by cases op <;> first | decide | exact absurd hc.1 (by decide))]
          cases op <;> first | rfl | exact absurd hc.1 (by decide)
        rw [hname] at hs
        have hcall := wpAny_mono (G.call hF I S (Rls.mk R1 (Rls.mk R2 (Rls.nil.mpr rfl))) (.cons rfl (.cons r2 .nil)) o) (fun r s' z => CmpBack_of (X := X) (Q := EP X pins σ Q) z id) (fun _ _ z => z)
        have key := PySem.W.cmp_K (op := op) G.room.units0 F I.ok.mod.kin J hb hn hs M.fn hcall
        cases op <;> first | exact key | exact absurd hc.1 (by decide)
      · exact o.elim
  | _ => exact o.elim
end
end Gm
namespace Gm
open PySem PySem.Spec PyProof.Rows L2
section
variable {L : Lw} {X : Cx} {Wx : WX} {k : Nat} {c : Fn}
def taOf (L : Lw) (K : PySem.W.Frag) (Wx : WX) (f : Fa) : TA := fun σ H Q => ∃ W st ρ, Sok K L W st H ∧ EnR K L W σ ρ ∧ Out K L Wx W σ (okA K L Q) (f ρ st)
def tsOf (L : Lw) (K : PySem.W.Frag) (Wx : WX) (f : Fs) : TS := fun D σ H => ∃ W st ρ, Sok K L W st H ∧ EnR K L W σ ρ ∧ OutS K L Wx W D (f ρ st)
def tgOf (L : Lw) (K : PySem.W.Frag) (g : Fg) (ts : List Nat) : TG := fun v σ H Q => ∃ W st ρ d ρ' st', Sok K L W st H ∧ EnR K L W σ ρ ∧ Rl K L W d v ∧ g d ρ st = .ok ρ' st' ∧ ∀ W' σ' H', W.le W' → Sok K L W' st' H' → EnR K L W' σ' ρ' → Fram ts σ σ' → Q σ' H'
theorem RA.pa {e : List Expr} {f : Fa} (h : RA L X Wx e f) : PA X e (taOf L X.K Wx f) := ⟨fun pos pins s σ H Q I ⟨W, st, ρ, S, E, o⟩ => h.run pos pins s σ H W st ρ Q I S E o⟩
theorem RSs.pss {e : List Stmt} {f : Fs} (h : RSs L X Wx e f) : PSs X e (tsOf L X.K Wx f) := ⟨fun pins s σ H D I ⟨W, st, ρ, S, E, o⟩ => h.run pins s σ H W st ρ D I S E o⟩
theorem RG.pg {tg : Expr} {g : Fg} {ts : List Nat} (h : RG L X tg g ts) : PG X tg (tgOf L X.K g ts) := ⟨fun pins s σ H v u Q I r ⟨W, st, ρ, d, ρ', st', S, E, R, hg, q⟩ =>
  thn (h.run pins s σ H W st ρ d v u ρ' st' I S E R r hg) fun _ s' ⟨W', σ', H', e, I', S', E', F'⟩ => ⟨σ', H', I', q W' σ' H' e S' E' F'⟩⟩
section
variable {W : Wd} {σ : St} {H : Hp} {st : Store} {ρ : Ev} {β : Type} {Ok : Wd → Hp → β → Prop}
theorem Out.toA {r : Res (List D)} {kk : List D → Store → Res β} {Q : List V → Hp → Prop} {K : PySem.W.Frag} (o : Out K L Wx W σ Ok (r.bind kk)) (h : ∀ d st1 W1 H1 v, r = .ok d st1 → W.le W1 → Sok K L W1 st1 H1 → Rls K L W1 d v → Out K L Wx W1 σ Ok (kk d st1) → Q v H1) : Out K L Wx W σ (okA K L Q) r := by
  cases r with
  | ok d st1 => exact fun W' H' e' S' v R' => h d st1 W' H' v rfl e' S' R' (Out.mono e' o)
  | err x st1 => exact o
  | stuck => exact o
end
def tiOf (L : Lw) (K : PySem.W.Frag) (Wx : WX) (f : Fi) : TI := fun σ H R => ∃ W st ρ, Sok K L W st H ∧ EnR K L W σ ρ ∧ Out K L Wx W σ (fun W' H' p => ∀ J, ItOk K L J W' p.1 p.2 → R J H') (f ρ st)
theorem RI.pi {tg iter : Expr} {f : Fi} (h : RI L X Wx tg iter f) : PI X tg iter (tiOf L X.K Wx f) := ⟨fun pins s σ H R I ⟨W, st, ρ, S, E, o⟩ => h.run pins s σ H W st ρ R I S E o⟩
def iSeq (f : Fe) : Fi := fun ρ st => (f ρ st).bind fun d st => match d with
  | .tup ds => .ok (ds, fun _ => True) st
  | .ref n => match st[n]? with
    | some (.lst ds) => .ok (ds, fun st => st[n]? = some (.lst ds)) st
    | some (.rol ds) => .ok (ds, fun st => st[n]? = some (.rol ds)) st
    | _ => .stuck
  | _ => .stuck
theorem sqL_of {K : PySem.W.Frag} {W : Wd} {st : Store} {H : Hp} {n : Nat} {a : Addr} {ds : List D} (S : Sok K L W st H) (h1 : W.io[n]? = some a) (h : st[n]? = some (.lst ds) ∨ st[n]? = some (.rol ds)) : ∃ vs, SqL K H a vs ∧ Rls K L W ds vs := by
  rcases h with h | h
  · obtain ⟨vs, h2, h3⟩ := S.cell n _ a h h1
    exact ⟨vs, .inl (.inl h2), h3⟩
  · obtain ⟨vs, h2, h3⟩ := S.cell n _ a h h1
    rcases h2 with ⟨o, h2⟩ | ⟨o, its, m, q1, q2, q3, q4, q5, q6⟩
    · exact ⟨vs, .inl (.inr ⟨o, h2⟩), h3⟩
    · exact ⟨vs, .inr ⟨o, its, m, q1, q2, q3, q4, q5, q6⟩, h3⟩
theorem itl_ok {K : PySem.W.Frag} {W : Wd} {n : Nat} {a : Addr} {ds : List D} {chk : Store → Prop} (h1 : W.io[n]? = some a) (hc : ∀ st, chk st → st[n]? = some (.lst ds) ∨ st[n]? = some (.rol ds)) : ItOk K L (Itl K a) W ds chk where
  go := fun i W' st H d e' S' h hd => by
    obtain ⟨vs, q1, q2⟩ := sqL_of S' (e'.2 _ _ h1) (hc st h)
    obtain ⟨x, hx, Rx⟩ := q2.get hd
    refine ⟨⟨vs, x, q1, hx⟩, fun y H' yl => ?_⟩
    obtain ⟨rfl, yl⟩ := yl
    have := yl vs q1
    rw [hx] at this
    cases this
    exact ⟨W', .rfl', S', Rx⟩
  stop := fun i W' st H e' S' h hd => by
    obtain ⟨vs, q1, q2⟩ := sqL_of S' (e'.2 _ _ h1) (hc st h)
    exact ⟨vs, q1, by rw [← q2.length]; exact hd⟩
theorem itt_ok {K : PySem.W.Frag} {W : Wd} {a : Addr} {vs : List V} {ds : List D} (h1 : SqT K W.fz a vs) (h2 : Rls K L W ds vs) (hinj : ∀ xs ys H, SqT K H a xs → SqT K H a ys → True) : ItOk K L (Itt K a) W ds (fun _ => True) where
  go := fun i W' st H d e' S' h hd => by
    obtain ⟨x, hx, Rx⟩ := h2.get hd
    have hq : SqT K H a vs := SqT_mono (fun b o q => S'.fz b o (e'.1 b o q)) h1
    refine ⟨⟨vs, x, hq, hx⟩, fun y H' yl => ?_⟩
    obtain ⟨rfl, yl⟩ := yl
    have := yl vs hq
    rw [hx] at this
    cases this
    exact ⟨W', .rfl', S', Rx.mono e'⟩
  stop := fun i W' st H e' S' h hd => ⟨vs, SqT_mono (fun b o q => S'.fz b o (e'.1 b o q)) h1, by rw [← h2.length]; exact hd⟩
theorem iter_list_any {pins : List (Addr × Obj)} {σ : St} {H : Hp} {s : Shared} {tg : Expr} {a : Addr} {xs : List V} {R : It → Hp → Prop} (I : Inv X pins σ H s) (hq : SqL X.K H a xs) (q : R (Itl X.K a) H) : wpAny (model X.prog X.w) X.A (pyIter (.ref a)) (PIE X pins σ tg R) X.xe s := by
  obtain ⟨its, rv, p, hz⟩ := I.list hq
  refine wpAny_pyIter_list p.isList ?_
  refine ⟨s.heap.objs.size, [s.heap.objs.size], _, _, H, rfl, I.kept (t' := s.toks) fun b o e => Heap.get?_push_of_some _ e, turn_list a _, ⟨_, Heap.get?_push_size _ rfl, rfl, rfl⟩, fun b hb => ?_, q⟩
  have e : b = s.heap.objs.size := by simpa using hb
  subst e
  exact I.fpOk (Nat.le_refl _) (I.hok.fresh (Nat.le_refl _))
theorem iter_tup_any {pins : List (Addr × Obj)} {σ : St} {H : Hp} {s : Shared} {tg : Expr} {a : Addr} {xs : List V} {R : It → Hp → Prop} (I : Inv X pins σ H s) (hq : SqT X.K H a xs) (q : R (Itt X.K a) H) : wpAny (model X.prog X.w) X.A (pyIter (.ref a)) (PIE X pins σ tg R) X.xe s := by
  obtain ⟨its, rv, p, hz⟩ := I.tuple hq
  refine wpAny_pyIter_tuple (show s.heap.IsTuple a its.toArray from p) ?_
  refine ⟨s.heap.objs.size, [s.heap.objs.size], _, _, H, rfl, I.kept (t' := s.toks) fun b o e => Heap.get?_push_of_some _ e, turn_tuple a _, ⟨_, Heap.get?_push_size _ rfl, rfl, rfl⟩, fun b hb => ?_, q⟩
  have e : b = s.heap.objs.size := by simpa using hb
  subst e
  exact I.fpOk (Nat.le_refl _) (I.hok.fresh (Nat.le_refl _))
theorem ri_seq {tg e : Expr} {f : Fe} (he : RE L X Wx e f) : RI L X Wx tg e (iSeq f) := by
  refine ⟨fun pins s σ H W st ρ R I S E o => he.bind I S E o fun d st1 W1 H1 v u s1 e1 I1 S1 R1 r1 o1 => ?_⟩
  cases d with
  | tup ds =>
    obtain ⟨a, vs, rfl, h1, h2⟩ := Rl.tup.mp R1
    cases r1
    exact iter_tup_any I1 (SqT_mono S1.fz h1) (o1 W1 H1 .rfl' S1 _ (itt_ok h1 h2 fun _ _ _ _ _ => trivial))
  | ref n =>
    obtain ⟨a, rfl, h1⟩ := Rl.ref.mp R1
    cases r1
    dsimp only at o1
    split at o1
    · rename_i ds hn
      obtain ⟨vs, q1, q2⟩ := sqL_of S1 h1 (.inl hn)
      exact iter_list_any I1 q1 (o1 W1 H1 .rfl' S1 _ (itl_ok h1 fun st h => .inl h))
    · rename_i ds hn
      obtain ⟨vs, q1, q2⟩ := sqL_of S1 h1 (.inr hn)
      exact iter_list_any I1 q1 (o1 W1 H1 .rfl' S1 _ (itl_ok h1 fun st h => .inr h))
    · exact o1.elim
  | _ => exact o1.elim
def intsFrom (lo : Int) (n : Nat) : List D := (List.range n).map fun (i : Nat) => D.int (lo + (i : Int))
def iRng (r : Fa) : Fi := fun ρ st => (r ρ st).bind fun ds st => match ds with
  | [.int j] => if -(2 ^ 62) ≤ j ∧ j < 2 ^ 62 then .ok (intsFrom 0 j.toNat, fun _ => True) st else .stuck
  | [.int i, .int j] => if -(2 ^ 62) ≤ i ∧ i < 2 ^ 62 ∧ -(2 ^ 62) ≤ j ∧ j < 2 ^ 62 then .ok (intsFrom i (j - i).toNat, fun _ => True) st else .stuck
  | _ => .stuck
theorem itr_ok {K : PySem.W.Frag} {W : Wd} {lo : Int} {n : Nat} : ItOk K L (Itr lo n) W (intsFrom lo n) (fun _ => True) where
  go := fun i W' st H d e' S' h hd => by
    unfold intsFrom at hd
    rw [List.getElem?_map] at hd
    have hi : i < n := by
      rcases Nat.lt_or_ge i n with h | h
      · exact h
      · rw [List.getElem?_eq_none (by simpa using h)] at hd; cases hd
    rw [List.getElem?_range hi] at hd
    cases hd
    refine ⟨hi, fun x H' yl => ?_⟩
    obtain ⟨rfl, rfl⟩ := yl
    exact ⟨W', .rfl', S', Rl.int.mpr rfl⟩
  stop := fun i W' st H e' S' h hd => by
    have : n ≤ i := by simpa [intsFrom] using hd
    exact this
theorem ri_range1 {tg a : Expr} {r : Fa} {p pos : Pos} (hg : Gl X "range") (hm : X.mg "range" = none) (ha : RA L X Wx [a] r) (hs : starEach [a] X.env = [(false, eval a X.env)] := by rfl) : RI L X Wx tg (.Call (.Name "range" p) [a] [] pos) (iRng r) :=
  ⟨fun pins s σ H W st ρ R I S E o => (pi_range1 hg hm ha.pa hs).run pins s σ H R I ⟨W, st, ρ, S, E, Out.toA o fun ds st1 W1 H1 vs hr e1 S1 R1 o1 => by
    have hl := ha.len _ _ _ _ hr
    match ds, hl with
    | [d], _ =>
      cases d with
      | int j =>
        dsimp only at o1
        split at o1
        · rename_i hj
          obtain ⟨v, _, rfl, q1, q2⟩ := Rls.cons.mp R1
          rw [Rls.nil.mp q2, Rl.int.mp q1]
          exact ⟨j, rfl, hj.1, hj.2, o1 W1 H1 .rfl' S1 _ itr_ok⟩
        · exact o1.elim
      | _ => exact o1.elim⟩⟩
open Classical in
noncomputable def forI (chk : Store → Prop) (g : Fg) (b : Fs) : List D → Fs
  | [] => fun ρ st => if chk st then .nx ρ st else .stuck
  | d :: ds => fun ρ st => if chk st then match g d ρ st with
    | .ok ρ' st' => match b ρ' st' with
      | .nx ρ st => forI chk g b ds ρ st
      | .ct ρ st => forI chk g b ds ρ st
      | .bk ρ st => .nx ρ st
      | r => r
    | _ => .stuck else .stuck
noncomputable def sFor (fi : Fi) (g : Fg) (b : Fs) : Fs := fun ρ st => (fi ρ st).toS ρ fun p st => forI p.2 g b p.1 ρ st
theorem rs_for {tg iter : Expr} {body : List Stmt} {fi : Fi} {g : Fg} {b : Fs} {ts : List Nat} {pos : Pos} (hp : PassesOwn (model X.prog X.w) X.A X.env X.xe) (hc : X.calm = true) (hi : RI L X Wx tg iter fi) (hg : RG L X tg g ts) (hb : RSs L X Wx body b)
    (hs : ∀ x, foldedSetIterable iter X.env x = pure x := by intro _; rfl) : RS L X Wx (.For tg iter body [] pos) (sFor fi g b) := by
  refine ⟨fun pins s σ H W st ρ D I S E o => (ps_for hp hc hi.pi hg.pg hb.pss hs).run pins s σ H D I ?_⟩
  refine ⟨W, st, ρ, S, E, ?_⟩
  unfold sFor at o
  cases q : fi ρ st with
  | stuck => rw [q] at o; exact o.elim
  | err x st1 => rw [q] at o; exact fun W' H' cls dx e' S' R' => o W' H' σ cls dx e' S' (E.mono e') R'
  | ok p st1 =>
    obtain ⟨ds, chk⟩ := p
    rw [q, Res.toS_ok] at o
    intro W1 H1 e1 S1 J hJ
    have o1 := OutS.mono e1 o
    clear o
    dsimp only at o1
    refine ⟨fun i m σ' H' => ∃ W' st' ρ', m = ds.length - i ∧ i ≤ ds.length ∧ W1.le W' ∧ Sok X.K L W' st' H' ∧ EnR X.K L W' σ' ρ' ∧ OutS X.K L Wx W' D (forI chk g b (ds.drop i) ρ' st'), ⟨ds.length, W1, st1, ρ, by simp, Nat.zero_le _, .rfl', S1, E.mono e1, by simpa using o1⟩, ?_⟩
    rintro i m σ' H' ⟨W', st', ρ', rfl, hi, e', S', E', o'⟩
    by_cases hlt : i < ds.length
    · rw [List.drop_eq_getElem_cons hlt] at o'
      unfold forI at o'
      split at o'
      · rename_i hck
        obtain ⟨h1, h2⟩ := hJ.go i W' st' H' ds[i] e' S' hck (List.getElem?_eq_getElem hlt)
        cases hgq : g ds[i] ρ' st' with
        | err x s2 => rw [hgq] at o'; exact o'.elim
        | stuck => rw [hgq] at o'; exact o'.elim
        | ok ρ2 st2 =>
          rw [hgq] at o'
          dsimp only at o'
          have step : ∀ (N : St → Hp → Prop), (∀ W2 x H2, W'.le W2 → Sok X.K L W2 st' H2 → Rl X.K L W2 ds[i] x → OutS X.K L Wx W2 { D with nx := N, ct := N, bk := D.nx } (b ρ2 st2)) →
              ∀ x H2, J.yld i H' x H2 → tgOf L X.K g ts x σ' H2 fun σ2 H3 => tsOf L X.K Wx b { D with nx := N, ct := N, bk := D.nx } σ2 H3 := fun N hN x H2 hy => by
            obtain ⟨W2, e2, S2, R2⟩ := h2 x H2 hy
            refine ⟨W2, st', ρ', ds[i], ρ2, st2, S2, E'.mono e2, R2, hgq, fun W3 σ3 H3 e3 S3 E3 _ => ⟨W3, st2, ρ2, S3, E3, OutS.mono e3 (hN W2 x H2 e2 S2 R2)⟩⟩
          cases hbq : b ρ2 st2 with
          | nx ρ3 st3 =>
            rw [hbq] at o'
            refine .inr ⟨h1, fun σ4 H4 => ∃ W4, W'.le W4 ∧ Sok X.K L W4 st3 H4 ∧ EnR X.K L W4 σ4 ρ3, fun σ4 H4 ⟨W4, e4, S4, E4⟩ => ⟨ds.length - (i + 1), by omega, W4, st3, ρ3, rfl, hlt, e'.trans e4, S4, E4, OutS.mono e4 o'⟩, step _ fun W2 x H2 e2 S2 R2 => ?_⟩
            rw [hbq]
            exact fun W4 H4 σ4 e4 S4 E4 => ⟨W4, e2.trans e4, S4, E4⟩
          | ct ρ3 st3 =>
            rw [hbq] at o'
            refine .inr ⟨h1, fun σ4 H4 => ∃ W4, W'.le W4 ∧ Sok X.K L W4 st3 H4 ∧ EnR X.K L W4 σ4 ρ3, fun σ4 H4 ⟨W4, e4, S4, E4⟩ => ⟨ds.length - (i + 1), by omega, W4, st3, ρ3, rfl, hlt, e'.trans e4, S4, E4, OutS.mono e4 o'⟩, step _ fun W2 x H2 e2 S2 R2 => ?_⟩
            rw [hbq]
            exact fun W4 H4 σ4 e4 S4 E4 => ⟨W4, e2.trans e4, S4, E4⟩
          | bk ρ3 st3 =>
            rw [hbq] at o'
            refine .inr ⟨h1, fun _ _ => False, fun _ _ z => z.elim, step _ fun W2 x H2 e2 S2 R2 => ?_⟩
            rw [hbq]
            exact fun W4 H4 σ4 e4 S4 E4 => o' W4 H4 σ4 (e2.trans e4) S4 E4
          | rt d st3 =>
            rw [hbq] at o'
            refine .inr ⟨h1, fun _ _ => False, fun _ _ z => z.elim, step _ fun W2 x H2 e2 S2 R2 => ?_⟩
            rw [hbq]
            exact fun W4 H4 v e4 S4 R4 => o' W4 H4 v (e2.trans e4) S4 R4
          | err d ρ3 st3 =>
            rw [hbq] at o'
            refine .inr ⟨h1, fun _ _ => False, fun _ _ z => z.elim, step _ fun W2 x H2 e2 S2 R2 => ?_⟩
            rw [hbq]
            exact fun W4 H4 σ4 cls dx e4 S4 E4 R4 => o' W4 H4 σ4 cls dx (e2.trans e4) S4 E4 R4
          | stuck => rw [hbq] at o'; exact o'.elim
      · exact o'.elim
    · have hi' : ds.length ≤ i := by omega
      rw [List.drop_of_length_le hi'] at o'
      unfold forI at o'
      split at o'
      · rename_i hck
        exact .inl ⟨hJ.stop i W' st' H' e' S' hck hi', o' W' H' σ' .rfl' S' E'⟩
      · exact o'.elim
end
end Gm
namespace Gm
open PySem PySem.Spec PyProof.Rows L2
section
variable {L : Lw} {X : Cx} {Wx : WX} {k : Nat} {c : Fn}
def whileN (t : Ft) (b : Fs) : Nat → Fs
  | 0 => fun _ _ => .stuck
  | n + 1 => fun ρ st => (t ρ st).toS ρ fun q st => if q then match b ρ st with
    | .nx ρ st => whileN t b n ρ st
    | .ct ρ st => whileN t b n ρ st
    | .bk ρ st => .nx ρ st
    | r => r else .nx ρ st
theorem whileN_succ (t : Ft) (b : Fs) : ∀ (n : Nat) (ρ : Ev) (st : Store), whileN t b n ρ st ≠ .stuck → whileN t b (n + 1) ρ st = whileN t b n ρ st
  | 0, _, _, h => absurd rfl h
  | n + 1, ρ, st, h => by
    unfold whileN at h ⊢
    cases q : t ρ st with
    | stuck => rfl
    | err x s => rfl
    | ok a s1 =>
      rw [q] at h
      simp only [Res.toS_ok] at h ⊢
      cases a with
      | false => rfl
      | true =>
        simp only [if_true] at h ⊢
        cases qb : b ρ s1 with
        | nx ρ' s' => rw [qb] at h; exact whileN_succ t b n ρ' s' h
        | ct ρ' s' => rw [qb] at h; exact whileN_succ t b n ρ' s' h
        | bk ρ' s' => rfl
        | rt _ _ => rfl
        | err _ _ _ => rfl
        | stuck => rfl
theorem whileN_le (t : Ft) (b : Fs) (n : Nat) (ρ : Ev) (st : Store) (h : whileN t b n ρ st ≠ .stuck) : ∀ k, whileN t b (n + k) ρ st = whileN t b n ρ st
  | 0 => rfl
  | k + 1 => by
    have ih := whileN_le t b n ρ st h k
    rw [← ih]
    exact whileN_succ t b (n + k) ρ st (by rw [ih]; exact h)
open Classical in
noncomputable def sWhile (t : Ft) (b : Fs) : Fs := fun ρ st => if h : ∃ n, whileN t b n ρ st ≠ .stuck then whileN t b (Classical.choose h) ρ st else .stuck
theorem sWhile_eq {t : Ft} {b : Fs} {ρ : Ev} {st : Store} (n : Nat) {r : SR} (h : whileN t b n ρ st = r) (hr : r ≠ .stuck) : sWhile t b ρ st = r := by
  have hn : ∃ n, whileN t b n ρ st ≠ .stuck := ⟨n, by rw [h]; exact hr⟩
  unfold sWhile
  rw [dif_pos hn]
  have h1 := whileN_le t b n ρ st (by rw [h]; exact hr) (Classical.choose hn)
  have h2 := whileN_le t b _ ρ st (Classical.choose_spec hn) n
  rw [Nat.add_comm] at h1
  rw [← h2, h1, h]
theorem rs_while {cd : Expr} {body : List Stmt} {t : Ft} {b : Fs} {pos : Pos} (hp : PassesOwn (model X.prog X.w) X.A X.env X.xe) (hc : RT L X Wx cd t) (hb : RSs L X Wx body b) : RS L X Wx (.While cd body [] pos) (sWhile t b) := by
  refine ⟨fun pins s σ H W st ρ D I S E o => (ps_while hp hc.pt hb.pss).run pins s σ H D I ?_⟩
  by_cases hn : ∃ n, whileN t b n ρ st ≠ .stuck
  · unfold sWhile at o
    rw [dif_pos hn] at o
    generalize Classical.choose hn = n at o
    refine ⟨fun m σ' H' => ∃ W' st' ρ', W.le W' ∧ Sok X.K L W' st' H' ∧ EnR X.K L W' σ' ρ' ∧ OutS X.K L Wx W' D (whileN t b m ρ' st'), ⟨n, W, st, ρ, .rfl', S, E, o⟩, ?_⟩
    rintro m σ' H' ⟨W', st', ρ', e', S', E', o'⟩
    cases m with
    | zero => exact o'.elim
    | succ m =>
      unfold whileN at o'
      refine ⟨W', st', ρ', S', E', ?_⟩
      cases qt : t ρ' st' with
      | stuck => rw [qt] at o'; exact o'.elim
      | err x s => rw [qt] at o'; exact fun W2 H2 cls dx e2 S2 R2 => o' W2 H2 σ' cls dx e2 S2 (E'.mono e2) R2
      | ok a s1 =>
        rw [qt, Res.toS_ok] at o'
        intro W2 H2 e2 S2
        have o2 := OutS.mono e2 o'
        have E2 := E'.mono e2
        cases a with
        | false => exact o2 W2 H2 σ' .rfl' S2 E2
        | true =>
          simp only [if_true] at o2 ⊢
          cases qb : b ρ' s1 with
          | nx ρ3 s3 =>
            rw [qb] at o2
            refine ⟨fun σ3 H3 => ∃ W3, W2.le W3 ∧ Sok X.K L W3 s3 H3 ∧ EnR X.K L W3 σ3 ρ3, fun σ3 H3 ⟨W3, e3, S3, E3⟩ => ⟨m, Nat.lt_succ_self m, W3, s3, ρ3, e'.trans (e2.trans e3), S3, E3, OutS.mono e3 o2⟩, W2, s1, ρ', S2, E2, ?_⟩
            rw [qb]
            exact fun W3 H3 σ3 e3 S3 E3 => ⟨W3, e3, S3, E3⟩
          | ct ρ3 s3 =>
            rw [qb] at o2
            refine ⟨fun σ3 H3 => ∃ W3, W2.le W3 ∧ Sok X.K L W3 s3 H3 ∧ EnR X.K L W3 σ3 ρ3, fun σ3 H3 ⟨W3, e3, S3, E3⟩ => ⟨m, Nat.lt_succ_self m, W3, s3, ρ3, e'.trans (e2.trans e3), S3, E3, OutS.mono e3 o2⟩, W2, s1, ρ', S2, E2, ?_⟩
            rw [qb]
            exact fun W3 H3 σ3 e3 S3 E3 => ⟨W3, e3, S3, E3⟩
          | bk ρ3 s3 =>
            rw [qb] at o2
            refine ⟨fun _ _ => False, fun _ _ z => z.elim, W2, s1, ρ', S2, E2, ?_⟩
            rw [qb]
            exact o2
          | rt d s3 =>
            rw [qb] at o2
            refine ⟨fun _ _ => False, fun _ _ z => z.elim, W2, s1, ρ', S2, E2, ?_⟩
            rw [qb]
            exact o2
          | err x ρ3 s3 =>
            rw [qb] at o2
            refine ⟨fun _ _ => False, fun _ _ z => z.elim, W2, s1, ρ', S2, E2, ?_⟩
            rw [qb]
            exact o2
          | stuck => rw [qb] at o2; exact o2.elim
  · unfold sWhile at o
    rw [dif_neg hn] at o
    exact o.elim
theorem wipe_in {σ : St} {i : Nat} : ∀ {vs : List Nat}, i ∈ vs → i < σ.length → (wipe σ vs)[i]? = some none
  | v :: vs, h, hl => by
    unfold wipe
    by_cases e : v = i
    · subst e
      rw [List.getElem?_set_self (by rw [wipe_length]; exact hl)]
    · rw [List.getElem?_set_ne e]
      exact wipe_in ((List.mem_cons.mp h).resolve_left (fun q => e q.symm)) hl
theorem Fram.wiped {ts vs : List Nat} {σ σ2 : St} (f : Fram ts (wipe σ vs) σ2) (h : ∀ i ∈ ts, i ∈ vs) : wipe σ2 vs = wipe σ vs := by
  refine List.ext_getElem? fun i => ?_
  by_cases hi : i ∈ vs
  · by_cases hl : i < σ.length
    · rw [wipe_in hi hl, wipe_in hi (by rw [f.1, wipe_length]; exact hl)]
    · rw [List.getElem?_eq_none (by rw [wipe_length, f.1, wipe_length]; omega), List.getElem?_eq_none (by rw [wipe_length]; omega)]
  · rw [wipe_at hi, f.2 i (fun q => hi (h i q))]
open Classical in
noncomputable def lcI (chk : Store → Prop) (g : Fg) (t : Ft) (f : Fe) (n : Nat) : List D → Ev → Store → Res D
  | [] => fun _ st => if chk st then .ok (.ref n) st else .stuck
  | d :: ds => fun ρ st => if chk st then match g d ρ st with
    | .ok ρ' st1 => match t ρ' st1 with
      | .ok false st2 => lcI chk g t f n ds ρ st2
      | .ok true st2 => match f ρ' st2 with
        | .ok y st3 => match st3[n]? with
          | some (.lst acc) => if acc.length < sizeLine then lcI chk g t f n ds ρ (st3.set n (.lst (acc ++ [y]))) else .stuck
          | _ => .stuck
        | _ => .stuck
      | _ => .stuck
    | _ => .stuck else .stuck
noncomputable def xLc (fi : Fi) (g : Fg) (t : Ft) (f : Fe) (vs : List Nat) : Fe := fun ρ st => (fi ρ st).bind fun p st => lcI p.2 g t f st.length p.1 (wipeE ρ vs) (st ++ [.lst []])
def tTrue : Ft := fun _ st => .ok true st
theorem rts_nil : RTs L X Wx [] tTrue := ⟨⟨fun pins s σ H Q I ⟨W, st, ρ, S, E, o⟩ => wpAny_tests_nil ⟨H, I, o W H .rfl' S⟩⟩⟩
theorem Gd.blk (G : Gd L X Wx k c) (s : Shared) (H : Hp) (scope : Scope) (cenv : Env) (fp : List Addr) : Gd L (X.blk s H scope cenv fp) W0 k c := ⟨G.fo, G.room, takes0, G.calm, PassesOwn.never, G.nd⟩
theorem lc_term {fi : Fi} {g : Fg} {t : Ft} {f : Fe} {ts : List Nat} {vs : List Nat} {σ : St} {H : Hp} {W : Wd} {st : Store} {ρ : Ev} {Q : VK} (hts : ∀ i ∈ ts, i ∈ vs) (S : Sok X.K L W st H) (E : EnR X.K L W σ ρ)
    (o : Out X.K L Wx W σ (okE X.K L Q) (xLc fi g t f vs ρ st)) : tLc (tiOf L X.K Wx fi) (tgOf L X.K g ts) (ttOf L X.K W0 t) (teOf L X.K W0 f) vs σ H Q := by
  refine ⟨W, st, ρ, S, E, ?_⟩
  unfold xLc at o
  cases q : fi ρ st with
  | stuck => rw [q] at o; exact o.elim
  | err x st1 => rw [q] at o; exact o
  | ok p st1 =>
    obtain ⟨ds, chk⟩ := p
    rw [q, Res.bind_ok] at o
    intro W1 H1 e1 S1 J hJ D0 hD
    have o1 := Out.mono e1 o
    clear o
    dsimp only at o1
    have S2 : Sok X.K L (W1.more D0) (st1 ++ [.lst []]) (upd H1 D0 (.lst [])) := S1.alloc hD ⟨[], upd_same, Rls.nil.mpr rfl⟩
    have ioD : (W1.more D0).io[st1.length]? = some D0 := by
      show (W1.io ++ [D0])[st1.length]? = _
      rw [S1.len, List.getElem?_concat_length]
    have Ew := (E.mono e1).wipe vs
    refine ⟨fun i m H' => ∃ W' st', m = ds.length - i ∧ i ≤ ds.length ∧ (W1.more D0).le W' ∧ Sok X.K L W' st' H' ∧ Out X.K L Wx W' σ (okE X.K L Q) (lcI chk g t f st1.length (ds.drop i) (wipeE ρ vs) st'), ⟨ds.length, W1.more D0, st1 ++ [.lst []], by simp, Nat.zero_le _, .rfl', S2, by simpa using Out.mono Wd.le_more o1⟩, ?_⟩
    rintro i m H' ⟨W', st', rfl, hi, e', S', o'⟩
    have ioD' := e'.2 _ _ ioD
    have hJ' := hJ.mono (Wd.le_more.trans e')
    have Ew' := Ew.mono (Wd.le_more.trans e')
    by_cases hlt : i < ds.length
    · rw [List.drop_eq_getElem_cons hlt] at o'
      unfold lcI at o'
      split at o'
      · rename_i hck
        obtain ⟨h1, h2⟩ := hJ'.go i W' st' H' ds[i] .rfl' S' hck (List.getElem?_eq_getElem hlt)
        cases hgq : g ds[i] (wipeE ρ vs) st' with
        | err x s2 => rw [hgq] at o'; exact o'.elim
        | stuck => rw [hgq] at o'; exact o'.elim
        | ok ρ2 st2 =>
          rw [hgq] at o'
          dsimp only at o'
          cases htq : t ρ2 st2 with
          | err x s2 => rw [htq] at o'; exact o'.elim
          | stuck => rw [htq] at o'; exact o'.elim
          | ok b st3 =>
            rw [htq] at o'
            cases b with
            | false =>
              dsimp only at o'
              refine .inr ⟨h1, fun H4 => ∃ W4, W'.le W4 ∧ Sok X.K L W4 st3 H4, fun H4 ⟨W4, e4, S4⟩ => ⟨ds.length - (i + 1), by omega, W4, st3, rfl, hlt, e'.trans e4, S4, Out.mono e4 o'⟩, fun x H2 hy => ?_⟩
              obtain ⟨W2, e2, S2', R2⟩ := h2 x H2 hy
              refine ⟨W2, st', wipeE ρ vs, ds[i], ρ2, st2, S2', Ew'.mono e2, R2, hgq, fun W3 σ3 H3 e3 S3 E3 F3 => ⟨F3.wiped hts, W3, st2, ρ2, S3, E3, ?_⟩⟩
              rw [htq]
              exact fun W4 H4 e4 S4 => by
                unfold okT
                simp only [Bool.false_eq_true, if_false]
                exact ⟨W4, e2.trans (e3.trans e4), S4⟩
            | true =>
              dsimp only at o'
              cases hfq : f ρ2 st3 with
              | err x s2 => rw [hfq] at o'; exact o'.elim
              | stuck => rw [hfq] at o'; exact o'.elim
              | ok y st4 =>
                rw [hfq] at o'
                dsimp only at o'
                split at o'
                · rename_i acc hacc
                  split at o'
                  · rename_i hsz
                    refine .inr ⟨h1, fun H4 => ∃ W4, W'.le W4 ∧ Sok X.K L W4 (st4.set st1.length (.lst (acc ++ [y]))) H4, fun H4 ⟨W4, e4, S4⟩ => ⟨ds.length - (i + 1), by omega, W4, _, rfl, hlt, e'.trans e4, S4, Out.mono e4 o'⟩, fun x H2 hy => ?_⟩
                    obtain ⟨W2, e2, S2', R2⟩ := h2 x H2 hy
                    refine ⟨W2, st', wipeE ρ vs, ds[i], ρ2, st2, S2', Ew'.mono e2, R2, hgq, fun W3 σ3 H3 e3 S3 E3 F3 => ⟨F3.wiped hts, W3, st2, ρ2, S3, E3, ?_⟩⟩
                    rw [htq]
                    intro W4 H4 e4 S4
                    unfold okT
                    simp only [if_true]
                    refine ⟨W4, st3, ρ2, S4, E3.mono e4, ?_⟩
                    rw [hfq]
                    intro W5 H5 e5 S5 v R5
                    have io5 : W5.io[st1.length]? = some D0 := (e2.trans (e3.trans (e4.trans e5))).2 _ _ ioD'
                    obtain ⟨ws, q1, q2⟩ := S5.cell _ _ D0 hacc io5
                    refine ⟨ws, q1, by rw [← q2.length]; exact hsz, W5, e2.trans (e3.trans (e4.trans e5)), S5.write hacc rfl io5 ⟨ws ++ [v], upd_same, q2.append (Rls.mk R5 (Rls.nil.mpr rfl))⟩⟩
                  · exact o'.elim
                · exact o'.elim
      · exact o'.elim
    · have hi' : ds.length ≤ i := by omega
      rw [List.drop_of_length_le hi'] at o'
      unfold lcI at o'
      split at o'
      · rename_i hck
        exact .inl ⟨hJ'.stop i W' st' H' .rfl' S' hck hi', o' W' H' .rfl' S' _ (Rl.ref.mpr ⟨D0, rfl, ioD'⟩)⟩
      · exact o'.elim
end
end Gm
namespace Gm
open PySem PySem.Spec PyProof.Rows L2
section
variable {L : Lw} {X : Cx} {Wx : WX} {k : Nat} {c : Fn} {x : Str} {p pos : Pos} {e : Expr} {es : List Expr} {f : Fe} {r : Fa}
def xBi (g : List D → Store → Res D) (r : Fa) : Fe := fun ρ st => (r ρ st).bind g
theorem re_bfn {id : String} {g : List D → Store → Res D} (hc : RCv L X Wx (.builtin id) g) (hg : Gl X x) (hm : X.mg x = none) (hv : bootBuiltins x = some (.builtin id)) (ha : RA L X Wx (e :: es) r) (hn : x ≠ "__name__" := by decide) (hdb : (x == ("__debug__" : Str)) = false := by decide)
    (he : starEach (e :: es) X.env = (false, eval e X.env) :: starEach es X.env := by rfl) (hpl : (backTo pos (starEach es X.env)).any (·.1) = false := by rfl) : RE L X Wx (.Call (.Name x p) (e :: es) [] pos) (xBi g r) := by
  refine ⟨fun pins s σ H W st ρ Q I S E o => ?_⟩
  refine wpAny_Call_Name_kw (ld_blt I hg hm hv ?_ hn hdb)
  exact PyProof.Rows.callWith_builtin1 (ha.bind I S E o fun ds st1 W1 H1 vs us s1 hl e1 I1 S1 R1 r1 o1 => hc pins s1 σ H1 W1 st1 ds vs us Q I1 S1 R1 r1 o1) he hpl
theorem re_bty {T : String} {g : List D → Store → Res D} (hc : RCv L X Wx (.type T) g) (hg : Gl X x) (hm : X.mg x = none) (hv : bootBuiltins x = some (.type T)) (ha : RA L X Wx (e :: es) r) (hn : x ≠ "__name__" := by decide) (hdb : (x == ("__debug__" : Str)) = false := by decide)
    (he : starEach (e :: es) X.env = (false, eval e X.env) :: starEach es X.env := by rfl) (hpl : (backTo pos (starEach es X.env)).any (·.1) = false := by rfl) : RE L X Wx (.Call (.Name x p) (e :: es) [] pos) (xBi g r) := by
  refine ⟨fun pins s σ H W st ρ Q I S E o => ?_⟩
  refine wpAny_Call_Name_kw (ld_blt I hg hm hv ?_ hn hdb)
  exact PyProof.Rows.callWith_type1 (ha.bind I S E o fun ds st1 W1 H1 vs us s1 hl e1 I1 S1 R1 r1 o1 => hc pins s1 σ H1 W1 st1 ds vs us Q I1 S1 R1 r1 o1) he hpl
def bAbs (ds : List D) (st : Store) : Res D := match ds with | [.int i] => .ok (.int (if i < 0 then -i else i)) st | _ => .stuck
def bInt (ds : List D) (st : Store) : Res D := match ds with
  | [.int i] => .ok (.int i) st
  | [.bl b] => .ok (.int (if b then 1 else 0)) st
  | [.str a] => match PySem.intText? a with
    | some n => if a.length ≤ 640 then .ok (.int n) st else .stuck
    | none => .stuck
  | _ => .stuck
def seqOf (d : D) (st : Store) : Option (List D) := match d with
  | .tup ds => some ds
  | .ref n => match st[n]? with
    | some (.lst ds) => some ds
    | some (.rol ds) => some ds
    | _ => none
  | _ => none
def bLen (ds : List D) (st : Store) : Res D := match ds with
  | [.str x] => if x.length ≤ sizeLine then .ok (.int x.length) st else .stuck
  | [d] => match seqOf d st with
    | some xs => .ok (.int xs.length) st
    | none => .stuck
  | _ => .stuck
def bList (ds : List D) (st : Store) : Res D := match ds with
  | [d] => match seqOf d st with
    | some xs => newLst xs st
    | none => .stuck
  | _ => .stuck
def bTuple (ds : List D) (st : Store) : Res D := match ds with
  | [d] => match seqOf d st with
    | some xs => .ok (.tup xs) st
    | none => .stuck
  | _ => .stuck
def maxOf : List Int → Int
  | [] => 0
  | [i] => i
  | i :: r => max i (maxOf r)
def bMax (ds : List D) (st : Store) : Res D := match ds with
  | [.int i, .int j] => .ok (.int (if j > i then j else i)) st
  | [.ref n] => match seqOf (.ref n) st with
    | some xs => match intsOf xs with
      | some ns => if ns ≠ [] then .ok (.int (maxOf ns)) st else .stuck
      | none => .stuck
    | none => .stuck
  | _ => .stuck
def bStr (ds : List D) (st : Store) : Res D := match ds with | [.int i] => if i.natAbs.log2 < 1920 then .ok (.str (toString i)) st else .stuck | _ => .stuck
theorem seqOf_ok {K : PySem.W.Frag} {W : Wd} {st : Store} {H : Hp} {d : D} {v : V} {ds : List D} (S : Sok K L W st H) (R : Rl K L W d v) (h : seqOf d st = some ds) : ∃ a vs, v = .ref a ∧ Rls K L W ds vs ∧ ((∃ n, d = .ref n ∧ SqL K H a vs) ∨ (d = .tup ds ∧ SqT K H a vs)) := by
  cases d with
  | tup es =>
    cases h
    obtain ⟨a, vs, rfl, h1, h2⟩ := Rl.tup.mp R
    exact ⟨a, vs, rfl, h2, .inr ⟨rfl, SqT_mono S.fz h1⟩⟩
  | ref n =>
    obtain ⟨a, rfl, h1⟩ := Rl.ref.mp R
    unfold seqOf at h
    dsimp only at h
    split at h
    · rename_i es hn
      cases h
      obtain ⟨vs, q1, q2⟩ := sqL_of S h1 (.inl hn)
      exact ⟨a, vs, rfl, q2, .inl ⟨n, rfl, q1⟩⟩
    · rename_i es hn
      cases h
      obtain ⟨vs, q1, q2⟩ := sqL_of S h1 (.inr hn)
      exact ⟨a, vs, rfl, q2, .inl ⟨n, rfl, q1⟩⟩
    · cases h
  | _ => cases h
theorem rls1 {K : PySem.W.Frag} {W : Wd} {d : D} {vs : List V} (R : Rls K L W [d] vs) : ∃ v, vs = [v] ∧ Rl K L W d v := by
  obtain ⟨v, vs', rfl, R1, R2⟩ := Rls.cons.mp R
  exact ⟨v, by rw [Rls.nil.mp R2], R1⟩
theorem rls2 {K : PySem.W.Frag} {W : Wd} {d e : D} {vs : List V} (R : Rls K L W [d, e] vs) : ∃ v w, vs = [v, w] ∧ Rl K L W d v ∧ Rl K L W e w := by
  obtain ⟨v, vs', rfl, R1, R2⟩ := Rls.cons.mp R
  obtain ⟨w, rfl, R3⟩ := rls1 R2
  exact ⟨v, w, rfl, R1, R3⟩
theorem rc_abs : RCv L X Wx (.builtin "abs") bAbs := fun pins s σ H W st ds xs us Q I S R r o => by
  unfold bAbs at o
  split at o
  · rename_i i
    obtain ⟨v, rfl, R1⟩ := rls1 R
    exact call_abs pins s σ H _ us Q I r ⟨i, by rw [Rl.int.mp R1], o W H .rfl' S _ (Rl.int.mpr rfl)⟩
  · exact o.elim
theorem rc_int : RCv L X Wx (.type "int") bInt := fun pins s σ H W st ds xs us Q I S R r o => by
  unfold bInt at o
  split at o
  · rename_i i
    obtain ⟨v, rfl, R1⟩ := rls1 R
    exact call_int1 pins s σ H _ us Q I r (.inl ⟨i, by rw [Rl.int.mp R1], o W H .rfl' S _ (Rl.int.mpr rfl)⟩)
  · rename_i i
    obtain ⟨v, rfl, R1⟩ := rls1 R
    exact call_int1 pins s σ H _ us Q I r (.inr ⟨i, by rw [Rl.bl.mp R1], o W H .rfl' S _ (Rl.int.mpr rfl)⟩)
  · rename_i a
    obtain ⟨v, rfl, R1⟩ := rls1 R
    split at o
    · rename_i n hn
      split at o
      · rename_i hl
        exact call_int_str pins s σ H _ us Q I r ⟨a, n, by rw [Rl.str.mp R1], hn, hl, o W H .rfl' S _ (Rl.int.mpr rfl)⟩
      · exact o.elim
    · exact o.elim
  · exact o.elim
theorem rc_len : RCv L X Wx (.builtin "len") bLen := fun pins s σ H W st ds xs us Q I S R r o => by
  unfold bLen at o
  split at o
  · rename_i z
    obtain ⟨v, rfl, R1⟩ := rls1 R
    split at o
    · rename_i hz
      rw [Rl.str.mp R1] at r
      exact call_len pins s σ H _ us Q I r ⟨.str z, z.length, rfl, ⟨hz, rfl⟩, o W H .rfl' S _ (Rl.int.mpr rfl)⟩
    · exact o.elim
  · rename_i d _
    obtain ⟨v, rfl, R1⟩ := rls1 R
    cases hq : seqOf d st with
    | none => rw [hq] at o; exact o.elim
    | some ys =>
      rw [hq] at o
      obtain ⟨a, vs, rfl, h1, h2⟩ := seqOf_ok S R1 hq
      refine call_len pins s σ H _ us Q I r ⟨.ref a, vs.length, rfl, ?_, by rw [← h1.length]; exact o W H .rfl' S _ (Rl.int.mpr rfl)⟩
      rcases h2 with ⟨n, _, h2⟩ | ⟨_, h2⟩
      · exact .inl ⟨vs, h2, rfl⟩
      · exact .inr ⟨vs, h2, rfl⟩
  · exact o.elim
theorem rc_list : RCv L X Wx (.type "list") bList := fun pins s σ H W st ds xs us Q I S R r o => by
  unfold bList at o
  split at o
  · rename_i d
    obtain ⟨v, rfl, R1⟩ := rls1 R
    cases hq : seqOf d st with
    | none => rw [hq] at o; exact o.elim
    | some ys =>
      rw [hq] at o
      obtain ⟨a, vs, rfl, h1, h2⟩ := seqOf_ok S R1 hq
      refine call_list_of pins s σ H _ us Q I r ⟨a, vs, rfl, ?_, fun p hp => o _ _ Wd.le_more (S.ofNew hp h1) _ (Rl.newRef S)⟩
      rcases h2 with ⟨n, _, h2⟩ | ⟨_, h2⟩
      · exact .inl h2
      · exact .inr h2
  · exact o.elim
theorem maxOf_max : ∀ {ns : List Int}, ns ≠ [] → maxOf ns ∈ ns ∧ ∀ y ∈ ns, y ≤ maxOf ns
  | [], h => absurd rfl h
  | [i], _ => ⟨by simp [maxOf], by simp [maxOf]⟩
  | i :: j :: r, _ => by
    obtain ⟨h1, h2⟩ := maxOf_max (ns := j :: r) (by simp)
    unfold maxOf
    refine ⟨?_, fun y hy => ?_⟩
    · rcases Int.le_total i (maxOf (j :: r)) with h | h
      · rw [Int.max_eq_right h]; exact List.mem_cons_of_mem _ h1
      · rw [Int.max_eq_left h]; exact List.mem_cons_self ..
    · rcases List.mem_cons.mp hy with rfl | hy
      · exact Int.le_max_left _ _
      · exact Int.le_trans (h2 y hy) (Int.le_max_right _ _)
theorem seqInts {K : PySem.W.Frag} {W : Wd} {st : Store} {H : Hp} {n : Nat} {v : V} {ds : List D} {ns : List Int} (S : Sok K L W st H) (R : Rl K L W (.ref n) v) (h : seqOf (.ref n) st = some ds) (hn : intsOf ds = some ns) : ∃ a, v = .ref a ∧ SqL K H a (ns.map V.int) := by
  obtain ⟨a, vs, rfl, h1, h2⟩ := seqOf_ok S R h
  rcases h2 with ⟨m, _, h2⟩ | ⟨e, _⟩
  · exact ⟨a, rfl, by rw [← intsOf_ok h1 hn]; exact h2⟩
  · cases e
theorem rc_max (hc : X.calm = true) : RCv L X Wx (.builtin "max") bMax := fun pins s σ H W st ds xs us Q I S R r o => by
  unfold bMax at o
  split at o
  · rename_i i j
    obtain ⟨v, w, rfl, R1, R2⟩ := rls2 R
    exact call_max2 hc pins s σ H _ us Q I r ⟨i, j, by rw [Rl.int.mp R1, Rl.int.mp R2], o W H .rfl' S _ (Rl.int.mpr rfl)⟩
  · rename_i n
    obtain ⟨v, rfl, R1⟩ := rls1 R
    split at o
    · rename_i ys hy
      split at o
      · rename_i ns hns
        split at o
        · rename_i hne
          obtain ⟨a, rfl, h1⟩ := seqInts S R1 hy hns
          obtain ⟨m1, m2⟩ := maxOf_max hne
          refine cr_max hc pins s σ H _ us Q I r ⟨a, ns, rfl, h1, List.length_pos_iff.mpr hne, fun m hm hall => ?_⟩
          have : m = maxOf ns := Int.le_antisymm (m2 m hm) (hall _ m1)
          rw [this]
          exact o W H .rfl' S _ (Rl.int.mpr rfl)
        · exact o.elim
      · exact o.elim
    · exact o.elim
  · exact o.elim
theorem rc_str : RCv L X Wx (.type "str") bStr := fun pins s σ H W st ds xs us Q I S R r o => by
  unfold bStr at o
  split at o
  · rename_i i
    obtain ⟨v, rfl, R1⟩ := rls1 R
    split at o
    · rename_i hz
      exact call_str_int pins s σ H _ us Q I r ⟨i, by rw [Rl.int.mp R1], hz, o W H .rfl' S _ (Rl.str.mpr rfl)⟩
    · exact o.elim
  · exact o.elim
end
end Gm
namespace Gm
open PySem PySem.Spec PyProof.Rows L2
section
variable {L : Lw} {X : Cx} {Wx : WX} {k : Nat} {c : Fn} {x : Str} {p pos : Pos} {e o a b : Expr} {es : List Expr} {f h : Fe} {r : Fa}
def keyOf : D → Option Key
  | .int i => some (.inl i)
  | .str z => some (.inr z)
  | _ => none
def valC (kvs : List (Key × D)) (k : Key) : Option D := match kvs with
  | [] => none
  | (j, d) :: r => if j = k then some d else valC r k
def putKC (kvs : List (Key × D)) (k : Key) (d : D) : List (Key × D) := match kvs with
  | [] => [(k, d)]
  | (j, e) :: r => if j = k then (j, d) :: r else (j, e) :: putKC r k d
def ndK (kvs : List (Key × D)) : Prop := (kvs.map (·.1)).Nodup
def optR (o : Option D) (st : Store) : Res D := match o with
  | some d => .ok d st
  | none => .stuck
def subD (d1 d2 : D) (st : Store) : Res D := match d1 with
  | .tup ds => match d2 with
    | .int i => optR (atI ds i) st
    | _ => .stuck
  | .ref n => match st[n]? with
    | some (.lst ds) => match d2 with
      | .int i => optR (atI ds i) st
      | _ => .stuck
    | some (.rol ds) => match d2 with
      | .int i => optR (atI ds i) st
      | _ => .stuck
    | some (.dic kvs) => match keyOf d2 with
      | some key => optR (valC kvs key) st
      | none => .stuck
    | _ => .stuck
  | _ => .stuck
theorem atI_rls {K : PySem.W.Frag} {W : Wd} {ds : List D} {vs : List V} {i : Int} {d : D} (R : Rls K L W ds vs) (h : atI ds i = some d) : ∃ v, atI vs i = some v ∧ Rl K L W d v := by
  unfold atI at h ⊢
  rw [← R.length]
  cases q : ixN ds.length i with
  | none => rw [q] at h; cases h
  | some j =>
    rw [q] at h
    exact R.get h
theorem keyOf_ok {K : PySem.W.Frag} {W : Wd} {d : D} {v : V} {key : Key} (R : Rl K L W d v) (h : keyOf d = some key) : v = kV key := by
  cases d with
  | int i => cases h; exact Rl.int.mp R
  | str i => cases h; exact Rl.str.mp R
  | _ => cases h
theorem valC_ok {K : PySem.W.Frag} {W : Wd} {kvs : List (Key × D)} {vs : List (Key × V)} {key : Key} {d : D} (R : RKv K L W kvs vs) (h : valC kvs key = some d) : ∃ v, valV vs key = some v ∧ Rl K L W d v := by
  induction R with
  | nil => cases h
  | @cons j e v ds us r _ ih =>
    unfold valC at h
    by_cases hj : j = key
    · rw [if_pos hj] at h
      cases h
      exact ⟨v, valV_pos hj, r⟩
    · rw [if_neg hj] at h
      obtain ⟨u, h1, h2⟩ := ih h
      refine ⟨u, ?_, h2⟩
      unfold valV at h1 ⊢
      rw [List.find?_cons]
      simp only [hj, decide_false]
      exact h1
theorem ix_dictv (hu : X.A.units + 1 < cLine) : IxR X (fun x y H Q => ∃ a v, x = .ref a ∧ DGet H a y (some v) ∧ Q v H) := by
  intro value slice pins s σ H x y v u Q I rx ry hh hs
  obtain ⟨a, w, rfl, g, q⟩ := hh
  cases rx
  have hT := dict_typeIs I g
  have h2 : wpAny (model X.prog X.w) X.A (getItem (.ref a) u) (EP X pins σ Q) X.xe s := d_getItem hu I g ry fun w' s3 I3 rw' => ⟨w, H, I3, rw', q⟩
  unfold subscriptTail
  refine wpAny_bind ?_
  rw [getitemInPython_of_ne hT.not_modules]
  refine wpAny_bind (wpAny_specialOf hT PySem.F.slot_dict_getitem.lookup ?_)
  have fin : wpAny (model X.prog X.w) X.A (subscripted slice false (.ref a) u) (fun r s₃ => wpAny (model X.prog X.w) X.A (letTemporaryGo value (.ref a) r >>= fun _ => pure r) (EP X pins σ Q) X.xe s₃) X.xe s := by
    rw [hs]
    exact wpAny_operating (wpAny_mono h2 (fun r s₃ h₃ => wpAny_bind (wpAny_letTemporaryGo (wpAny_pure h₃))) fun _ _ x => x)
  first
    | exact wpAny_pure (wpAny_bind fin)
    | exact wpAny_bind (wpAny_pure (wpAny_bind fin))
    | exact wpAny_bind fin
theorem re_ix (G : Gd L X Wx k c) (ha : RE L X Wx a f) (hb : RE L X Wx b h) (hs : PlainIx b := by intro _ _; rfl) : RE L X Wx (.Subscript a b pos) (xBin subD f h) := by
  refine ⟨fun pins s σ H W st ρ Q I S E o => ?_⟩
  refine Subscript_ (binRun (F := fun v u => subscriptTail a b v u) (g := subD) ha hb I S E o fun d1 d2 st2 W2 H2 x y v u s2 _ I2 S2 R1 R2 r1 r2 o2 => ?_)
  have hu : X.A.units + 1 < cLine := by have := G.room.units; omega
  have seq : ∀ a' vs ds, x = .ref a' → Rls X.K L W2 ds vs → (SqL X.K H2 a' vs ∨ SqT X.K H2 a' vs) → ∀ i, d2 = .int i → Out X.K L Wx W2 σ (okE X.K L Q) (optR (atI ds i) st2) → wpAny (model X.prog X.w) X.A (subscriptTail a b v u) (EP X pins σ Q) X.xe s2 := fun a' vs ds ex R hq i ed o => by
    subst ex; subst ed
    cases hat : atI ds i with
    | none => rw [hat] at o; exact o.elim
    | some d =>
      rw [hat] at o
      obtain ⟨w, h1, h2⟩ := atI_rls R hat
      have hy := Rl.int.mp R2
      rcases hq with hq | hq
      · exact ix_list a b pins s2 σ H2 _ y v u Q I2 r1 r2 ⟨a', vs, i, w, rfl, hy, hq, h1, o W2 H2 .rfl' S2 w h2⟩ (hs _ _)
      · exact ix_tup a b pins s2 σ H2 _ y v u Q I2 r1 r2 ⟨a', vs, i, w, rfl, hy, hq, h1, o W2 H2 .rfl' S2 w h2⟩ (hs _ _)
  unfold subD at o2
  split at o2
  · rename_i ds
    obtain ⟨a', vs, rfl, h1, h2⟩ := Rl.tup.mp R1
    split at o2
    · rename_i i
      exact seq a' vs ds rfl h2 (.inr (SqT_mono S2.fz h1)) i rfl o2
    · exact o2.elim
  · rename_i n
    obtain ⟨a', rfl, h1⟩ := Rl.ref.mp R1
    split at o2
    · rename_i ds hn
      obtain ⟨vs, q1, q2⟩ := sqL_of S2 h1 (.inl hn)
      split at o2
      · rename_i i
        exact seq a' vs ds rfl q2 (.inl q1) i rfl o2
      · exact o2.elim
    · rename_i ds hn
      obtain ⟨vs, q1, q2⟩ := sqL_of S2 h1 (.inr hn)
      split at o2
      · rename_i i
        exact seq a' vs ds rfl q2 (.inl q1) i rfl o2
      · exact o2.elim
    · rename_i kvs hn
      obtain ⟨vs, q1, q2⟩ := S2.cell n _ a' hn h1
      split at o2
      · rename_i key hk
        cases hv : valC kvs key with
        | none => rw [hv] at o2; exact o2.elim
        | some d =>
          rw [hv] at o2
          obtain ⟨w, h3, h4⟩ := valC_ok q2 hv
          have hy := keyOf_ok R2 hk
          subst hy
          refine ix_dictv hu a b pins s2 σ H2 _ _ v u Q I2 r1 r2 ⟨a', w, rfl, ?_, o2 W2 H2 .rfl' S2 w h4⟩ (hs _ _)
          rw [← h3]
          exact DGet.k q1
      · exact o2.elim
    · exact o2.elim
  · exact o2.elim
open Classical in
noncomputable def putD (o i d : D) (st : Store) : Res Store := match o with
  | .ref n => match st[n]? with
    | some (.dic kvs) => match keyOf i with
      | some key => if kvs.length < sizeLine ∧ ndK kvs then .ok (st.set n (.dic (putKC kvs key d))) st else .stuck
      | none => .stuck
    | some (.lst ds) => match i with
      | .int j => match ixN ds.length j with
        | some m => .ok (st.set n (.lst (ds.set m d))) st
        | none => .stuck
      | _ => .stuck
    | _ => .stuck
  | _ => .stuck
noncomputable def sPut (fo fi fv : Fe) : Fs := fun ρ st => (fv ρ st).toS ρ fun d st => (fo ρ st).toS ρ fun o st => (fi ρ st).toS ρ fun i st => match putD o i d st with
  | .ok st' _ => .nx ρ st'
  | _ => .stuck
theorem RKv.keys {K : PySem.W.Frag} {W : Wd} {kvs : List (Key × D)} {vs : List (Key × V)} (R : RKv K L W kvs vs) : vs.map (·.1) = kvs.map (·.1) := by
  induction R with
  | nil => rfl
  | cons _ _ ih => rw [List.map_cons, List.map_cons, ih]
theorem putKC_ok {K : PySem.W.Frag} {W : Wd} {kvs : List (Key × D)} {vs : List (Key × V)} {key : Key} {d : D} {v : V} (R : RKv K L W kvs vs) (hn : ndK kvs) (Rv : Rl K L W d v) : RKv K L W (putKC kvs key d) (putK vs key v) := by
  induction R with
  | nil => exact .cons Rv .nil
  | @cons j e u ds us r rest ih =>
    have hn' : j ∉ ds.map (·.1) ∧ ndK ds := by
      have := List.nodup_cons.mp (show (j :: ds.map (·.1)).Nodup from hn)
      exact ⟨this.1, this.2⟩
    unfold putKC
    by_cases hj : j = key
    · subst hj
      rw [if_pos rfl]
      unfold putK
      have h1 : ((j, u) :: us).any (fun kv => decide (kv.1 = j)) = true := by simp
      rw [if_pos h1, List.map_cons, if_pos rfl]
      have h2 : us.map (fun kv => if kv.1 = j then (kv.1, v) else kv) = us := by
        have h3 : us.map (fun kv => if kv.1 = j then (kv.1, v) else kv) = us.map id := List.map_congr_left fun kv hk => if_neg fun e => hn'.1 (by
          rw [← rest.keys, ← e]
          exact List.mem_map.mpr ⟨kv, hk, rfl⟩)
        rw [h3, List.map_id]
      rw [h2]
      exact .cons Rv rest
    · rw [if_neg hj]
      have ih' := ih hn'.2
      unfold putK at ih' ⊢
      have h1 : ((j, u) :: us).any (fun kv => decide (kv.1 = key)) = us.any (fun kv => decide (kv.1 = key)) := by simp [hj]
      rw [h1]
      split
      · rename_i h2
        rw [if_pos h2] at ih'
        rw [List.map_cons, if_neg hj]
        exact .cons r ih'
      · rename_i h2
        rw [if_neg h2] at ih'
        exact .cons r ih'
theorem rls_set {K : PySem.W.Frag} {W : Wd} {d : D} {v : V} (Rv : Rl K L W d v) : ∀ {ds : List D} {vs : List V} (j : Nat), Rls K L W ds vs → Rls K L W (ds.set j d) (vs.set j v)
  | [], vs, j, R => by rw [Rls.nil.mp R]; exact Rls.nil.mpr rfl
  | e :: ds, vs, 0, R => by
    obtain ⟨u, vs', rfl, _, R2⟩ := Rls.cons.mp R
    exact Rls.mk Rv R2
  | e :: ds, vs, j + 1, R => by
    obtain ⟨u, vs', rfl, R1, R2⟩ := Rls.cons.mp R
    exact Rls.mk R1 (rls_set Rv j R2)
theorem rs_sput {fo fi fv : Fe} {i value : Expr} {pos' : Pos} (G : Gd L X Wx k c) (ho : RE L X Wx o fo) (hi : RE L X Wx i fi) (hv : RE L X Wx value fv) (hs : swapsWith value (some (.Subscript o i pos')) pos.line X.env = pure false := by rfl) :
    RS L X Wx (.Assign [.Subscript o i pos'] value pos) (sPut fo fi fv) := by
  refine ⟨fun pins s σ H W sto ρ D I S E oo => ?_⟩
  have hu : X.A.units + 1 < cLine := by have := G.room.units; omega
  refine wpAny_Assign_Subscript (hv.bindS I S E oo fun d st1 W1 H1 v u s1 e1 I1 S1 R1 r1 o1 => ho.bindS I1 S1 (E.mono e1) o1 fun od st2 W2 H2 x ov s2 e2 I2 S2 R2 r2 o2 => hi.bindS I2 S2 (E.mono (e1.trans e2)) o2 fun iD st3 W3 H3 y iv s3 e3 I3 S3 R3 r3 o3 => ?_) hs
  have Rd := R1.mono (e2.trans e3)
  have Ro := R2.mono e3
  have E3 := E.mono (e1.trans (e2.trans e3))
  unfold putD at o3
  split at o3
  · rename_i st' _ hq
    split at hq
    · rename_i n
      obtain ⟨a', rfl, h1⟩ := Rl.ref.mp Ro
      obtain rfl : ov = Value.ref a' := r2
      split at hq
      · rename_i kvs hn
        split at hq
        · rename_i key hk
          split at hq
          · rename_i hc
            cases hq
            obtain ⟨vs, q1, q2⟩ := S3.cell n _ a' hn h1
            have hy := keyOf_ok R3 hk
            subst hy
            have hl : vs.length < sizeLine := by
              have := congrArg List.length q2.keys
              rw [List.length_map, List.length_map] at this
              rw [this]; exact hc.1
            exact d_setItem hu I3 (DPut.k q1 hl) r3 r1 fun s4 I4 => ⟨σ, _, I4, o3 W3 _ σ .rfl' (S3.write hn rfl h1 ⟨_, upd_same, putKC_ok q2 hc.2 Rd⟩) E3⟩
          · cases hq
        · cases hq
      · rename_i ds hn
        split at hq
        · rename_i j
          split at hq
          · rename_i m hm
            cases hq
            obtain ⟨vs, q1, q2⟩ := S3.cell n _ a' hn h1
            refine thn (set_list pins s3 σ H3 (.ref a') y v (.ref a') iv u (fun H' => H' = upd H3 a' (.lst (vs.set m v))) I3 rfl r3 r1 ⟨a', vs, j, m, rfl, Rl.int.mp R3, q1, by rw [← q2.length]; exact hm, rfl⟩) fun _ s4 ⟨H4, I4, e4⟩ => ?_
            subst e4
            exact ⟨σ, _, I4, o3 W3 _ σ .rfl' (S3.write hn rfl h1 ⟨_, upd_same, rls_set Rd m q2⟩) E3⟩
          · cases hq
        · cases hq
      · cases hq
    · cases hq
  · exact o3.elim
open Classical in
noncomputable def xDic (ks : List Str) (r : Fa) : Fe := fun ρ st => (r ρ (st ++ [.dic []])).bind fun ds st' => match st'[st.length]? with
  | some (.dic []) => if ds.length = ks.length ∧ ks.Nodup then .ok (.ref st.length) (st'.set st.length (.dic ((ks.map Sum.inr).zip ds))) else .stuck
  | _ => .stuck
theorem RPs.shape {ks : List Str} {kes : List (Option Expr)} {ves : List Expr} {r : Fa} (h : RPs L X Wx ks kes ves r) : kes.all (·.isSome) = true ∧ kes.length = ves.length ∧ kes.length = ks.length := by
  induction h with
  | nil => exact ⟨rfl, rfl, rfl⟩
  | cons _ _ ih => exact ⟨by rw [List.all_cons, ih.1]; rfl, by rw [List.length_cons, List.length_cons, ih.2.1], by rw [List.length_cons, List.length_cons, ih.2.2]⟩
def prsOf (L : Lw) (K : PySem.W.Frag) (Wx : WX) : List Str → List Fe → List (TE × TE)
  | z :: ks, f :: fs => (tC (.str z), teOf L K Wx f) :: prsOf L K Wx ks fs
  | _, _ => []
theorem RPs.pps {ks : List Str} {kes : List (Option Expr)} {ves : List Expr} {r : Fa} (h : RPs L X Wx ks kes ves r) : ∃ fs : List Fe, fs.length = ks.length ∧ PPs X pos kes ves (prsOf L X.K Wx ks fs) ∧ r = fs.foldr aCons aNil := by
  induction h with
  | nil => exact ⟨[], rfl, pps_nil, rfl⟩
  | @cons z j kp v ks kes ves f r hf _ ih =>
    obtain ⟨fs, h1, h2, h3⟩ := ih
    exact ⟨f :: fs, by rw [List.length_cons, List.length_cons, h1], pps_cons pe_str hf.pe h2, by rw [List.foldr_cons, h3]⟩
theorem aCons_eq (f : Fe) (r : Fa) (ρ : Ev) (st : Store) : aCons f r ρ st = (f ρ st).bind fun a st => (r ρ st).bind fun l st => .ok (a :: l) st := rfl
theorem zip_kV : ∀ (ks : List Str) (vs : List V), (ks.map V.str).zip vs = ((ks.map (Sum.inr : Str → Key)).zip vs).map fun kv => (kV kv.1, kv.2)
  | [], vs => rfl
  | z :: ks, [] => rfl
  | z :: ks, v :: vs => by
    rw [List.map_cons, List.map_cons, List.zip_cons_cons, List.zip_cons_cons, List.map_cons, zip_kV ks vs]
    rfl
theorem prs_run {σ : St} : ∀ {ks : List Str} {fs : List Fe} {H : Hp} {W : Wd} {st : Store} {ρ : Ev} {Q : List (V × V) → Hp → Prop}, fs.length = ks.length → Sok X.K L W st H → EnR X.K L W σ ρ →
    Out X.K L Wx W σ (okA X.K L fun vs H' => ∃ ps, ps = (ks.map V.str).zip vs ∧ Q ps H') ((fs.foldr aCons aNil) ρ st) → tPairs (prsOf L X.K Wx ks fs) σ H Q
  | [], [], H, W, st, ρ, Q, _, S, E, o => by
    obtain ⟨ps, rfl, q⟩ := o W H .rfl' S [] (Rls.nil.mpr rfl)
    exact q
  | z :: ks, f :: fs, H, W, st, ρ, Q, hl, S, E, o => by
    refine ⟨W, st, ρ, S, E, ?_⟩
    rw [List.foldr_cons, aCons_eq] at o
    refine Out.toE o fun d st1 W1 H1 v hr e1 S1 R1 o1 => ?_
    refine prs_run (by simpa using hl) S1 (E.mono e1) ?_
    generalize (fs.foldr aCons aNil) ρ st1 = r1 at o1 ⊢
    cases r1 with
    | stuck => exact o1
    | err x s2 => exact o1
    | ok l s2 =>
      intro W' H' e' S' vs R'
      obtain ⟨ps, e2, q⟩ := o1 W' H' e' S' (v :: vs) (Rls.mk (R1.mono e') R')
      exact ⟨_, rfl, by subst e2; exact q⟩
theorem merge_id {vs : List V} : ∀ {ks : List Str} {acc : List (Key × V)}, (∀ z ∈ ks, ∀ p ∈ acc, p.1 ≠ Sum.inr z) → ks.Nodup → vs.length = ks.length → mergeK acc ((ks.map Sum.inr).zip vs) = acc ++ (ks.map Sum.inr).zip vs := by
  induction vs with
  | nil =>
    intro ks acc _ _ hl
    cases ks with
    | nil => simp [mergeK]
    | cons _ _ => cases hl
  | cons v vs ih =>
    intro ks acc hd hn hl
    cases ks with
    | nil => cases hl
    | cons z ks =>
      have hn' := List.nodup_cons.mp hn
      have h1 : putK acc (Sum.inr z : Key) v = acc ++ [((Sum.inr z : Key), v)] := by
        unfold putK
        rw [if_neg]
        intro h
        rw [List.any_eq_true] at h
        obtain ⟨p, hp, hq⟩ := h
        exact hd z (List.mem_cons_self ..) p hp (of_decide_eq_true hq)
      show mergeK (putK acc (Sum.inr z) v) ((ks.map Sum.inr).zip vs) = acc ++ ((Sum.inr z, v) :: (ks.map Sum.inr).zip vs)
      rw [h1, ih (ks := ks) (fun y hy p hp => ?_) hn'.2 (by simpa using hl)]
      · simp
      · rcases List.mem_append.mp hp with hp | hp
        · exact hd y (List.mem_cons_of_mem _ hy) p hp
        · rcases List.mem_singleton.mp hp with rfl
          intro e
          cases e
          exact hn'.1 hy
theorem rkv_zip {K : PySem.W.Frag} {W : Wd} : ∀ {ks : List Key} {ds : List D} {vs : List V}, Rls K L W ds vs → RKv K L W (ks.zip ds) (ks.zip vs)
  | [], ds, vs, R => .nil
  | k :: ks, [], vs, R => by rw [Rls.nil.mp R]; exact .nil
  | k :: ks, d :: ds, vs, R => by
    obtain ⟨v, vs', rfl, R1, R2⟩ := Rls.cons.mp R
    exact .cons R1 (rkv_zip R2)
theorem re_dic {ks : List Str} {kes : List (Option Expr)} {ves : List Expr} {r : Fa} (h : RPs L X Wx ks kes ves r) (h0 : kes ≠ []) (h15 : kes.length ≤ 15) : RE L X Wx (.Dict kes ves pos) (xDic ks r) := by
  obtain ⟨s1, s2, s3⟩ := h.shape
  obtain ⟨fs, l1, hp, rfl⟩ := h.pps (pos := pos)
  refine RE.of_pe (pe_disp hp s1 s2 h0 h15) fun σ H W st ρ Q S E o => ?_
  intro D0 hD
  have S1 : Sok X.K L (W.more D0) (st ++ [.dic []]) (upd H D0 (.dK [])) := S.alloc hD ⟨[], upd_same, .nil⟩
  have ioD : (W.more D0).io[st.length]? = some D0 := by
    show (W.io ++ [D0])[st.length]? = _
    rw [S.len, List.getElem?_concat_length]
  refine prs_run l1 S1 (E.mono Wd.le_more) ?_
  unfold xDic at o
  have o' := Out.mono (Wd.le_more (a := D0)) o
  generalize (fs.foldr aCons aNil) ρ (st ++ [.dic []]) = r1 at o' ⊢
  cases r1 with
  | stuck => exact o'
  | err x s2 => exact o'
  | ok ds st' =>
    intro W' H' e' S' vs R'
    have o2 := Out.mono e' o'
    rw [Res.bind_ok] at o2
    split at o2
    · rename_i hn
      split at o2
      · rename_i hc
        have ioD' := e'.2 _ _ ioD
        obtain ⟨us, q1, q2⟩ := S'.cell _ _ D0 hn ioD'
        cases q2
        have hlv : vs.length = ks.length := by rw [← R'.length]; exact hc.1
        have hm := merge_id (vs := vs) (ks := ks) (acc := []) (fun _ _ p hp => by cases hp) hc.2 hlv
        refine ⟨_, rfl, q1, (ks.map Sum.inr).zip vs, zip_kV ks vs, ?_, ?_⟩
        · rw [List.length_zip, List.length_map]
          have := Nat.min_le_left ks.length vs.length
          omega
        · rw [hm, List.nil_append]
          exact o2 W' _ .rfl' (S'.write hn rfl ioD' ⟨_, upd_same, rkv_zip R'⟩) _ (Rl.ref.mpr ⟨D0, rfl, ioD'⟩)
      · exact o2.elim
    · exact o2.elim
end
end Gm
namespace Gm
open PySem PySem.Spec PyProof.Rows L2
section
variable {L : Lw} {X : Cx} {Wx : WX} {k : Nat} {c : Fn} {x : Str} {p pos apos : Pos} {e o a b fe : Expr} {es : List Expr} {f h : Fe} {r : Fa}
def appD (o d : D) (st : Store) : Res D := match o with
  | .ref n => match st[n]? with
    | some (.lst ds) => if ds.length < sizeLine then .ok .non (st.set n (.lst (ds ++ [d]))) else .stuck
    | _ => .stuck
  | _ => .stuck
def xApp (fo fd : Fe) : Fe := fun ρ st => (fo ρ st).bind fun o st => match o with
  | .ref n => match st[n]? with
    | some (.lst _) => (fd ρ st).bind fun d st => appD o d st
    | _ => .stuck
  | _ => .stuck
def oNo : Fo := fun _ st => .ok none st
def oSo (f : Fe) : Fo := fun ρ st => (f ρ st).bind fun d st => match d with
  | .int i => .ok (some i) st
  | _ => .stuck
def cutD (xs : List D) (lo hi : Option Int) : List D := (xs.drop (HT.sIx xs.length 0 lo)).take (HT.sIx xs.length xs.length hi - HT.sIx xs.length 0 lo)
def sliD (d : D) (lo hi : Option Int) (st : Store) : Res D := match d with
  | .tup xs => if HT.sIx xs.length 0 lo = 0 ∧ HT.sIx xs.length xs.length hi = xs.length then .stuck else .ok (.tup (cutD xs lo hi)) st
  | .ref n => match st[n]? with
    | some (.lst xs) => newLst (cutD xs lo hi) st
    | some (.rol xs) => newLst (cutD xs lo hi) st
    | _ => .stuck
  | _ => .stuck
def xSl (f : Fe) (lo hi : Fo) : Fe := fun ρ st => (f ρ st).bind fun d st => (lo ρ st).bind fun l st => (hi ρ st).bind fun u st => sliD d l u st
theorem ro_no : RO L X Wx none oNo := ⟨⟨fun pins s σ H Q I ⟨W, st, ρ, S, E, o⟩ => po_none.run pins s σ H Q I (o W H .rfl' S)⟩⟩
theorem ro_so (he : RE L X Wx e f) : RO L X Wx (some e) (oSo f) := ⟨⟨fun pins s σ H Q I ⟨W, st, ρ, S, E, o⟩ => (po_some he.pe).run pins s σ H Q I ⟨W, st, ρ, S, E, Out.toE o fun d st1 W1 H1 v hr e1 S1 R1 o1 => by
  cases d with
  | int i => exact ⟨i, Rl.int.mp R1, o1 W1 H1 .rfl' S1⟩
  | _ => exact o1.elim⟩⟩⟩
theorem Out.toO {W : Wd} {σ : St} {β : Type} {Ok : Wd → Hp → β → Prop} {r : Res (Option Int)} {kk : Option Int → Store → Res β} {Q : Option Int → Hp → Prop} {K : PySem.W.Frag} (o : Out K L Wx W σ Ok (r.bind kk)) (h : ∀ d st1 W1 H1, r = .ok d st1 → W.le W1 → Sok K L W1 st1 H1 → Out K L Wx W1 σ Ok (kk d st1) → Q d H1) : Out K L Wx W σ (fun _ H' o => Q o H') r := by
  cases r with
  | ok d st1 => exact fun W' H' e' S' => h d st1 W' H' rfl e' S' (Out.mono e' o)
  | err x st1 => exact o
  | stuck => exact o
theorem rls_cut {K : PySem.W.Frag} {W : Wd} {ds : List D} {vs : List V} (R : Rls K L W ds vs) (lo hi : Option Int) : Rls K L W (cutD ds lo hi) (cutV vs lo hi) := by
  have hdrop : ∀ (n : Nat) {ds : List D} {vs : List V}, Rls K L W ds vs → Rls K L W (ds.drop n) (vs.drop n) := by
    intro n
    induction n with
    | zero => intro ds vs R; exact R
    | succ n ih =>
      intro ds vs R
      cases ds with
      | nil => rw [Rls.nil.mp R]; exact Rls.nil.mpr rfl
      | cons d ds => obtain ⟨v, vs', rfl, _, R2⟩ := Rls.cons.mp R; exact ih R2
  have htake : ∀ (n : Nat) {ds : List D} {vs : List V}, Rls K L W ds vs → Rls K L W (ds.take n) (vs.take n) := by
    intro n
    induction n with
    | zero => intro ds vs R; exact Rls.nil.mpr rfl
    | succ n ih =>
      intro ds vs R
      cases ds with
      | nil => rw [Rls.nil.mp R]; exact Rls.nil.mpr rfl
      | cons d ds => obtain ⟨v, vs', rfl, R1, R2⟩ := Rls.cons.mp R; exact Rls.mk R1 (ih R2)
  unfold cutD cutV
  rw [← R.length]
  exact htake _ (hdrop _ R)
theorem re_sl {lo hi : Option Expr} {p2 : Pos} {fl fh : Fo} (he : RE L X Wx e f) (hl : RO L X Wx lo fl) (hh : RO L X Wx hi fh) : RE L X Wx (.Subscript e (.Slice lo hi none p2) pos) (xSl f fl fh) := by
  refine RE.of_pe (pe_slice (sl_list.or sl_tup) he.pe hl.po hh.po) fun σ H W st ρ Q S E oo => ?_
  refine ⟨W, st, ρ, S, E, Out.toE oo fun d st1 W1 H1 v hr e1 S1 R1 o1 => ⟨W1, st1, ρ, S1, E.mono e1, Out.toO o1 fun l st2 W2 H2 hr2 e2 S2 o2 => ⟨W2, st2, ρ, S2, E.mono (e1.trans e2), Out.toO o2 fun u st3 W3 H3 hr3 e3 S3 o3 => ?_⟩⟩⟩
  have R3 := R1.mono (e2.trans e3)
  unfold sliD at o3
  split at o3
  · rename_i xs
    split at o3
    · exact o3.elim
    · rename_i hc
      obtain ⟨a', vs, rfl, h1, h2⟩ := Rl.tup.mp R3
      refine .inr ⟨a', vs, rfl, SqT_mono S3.fz h1, by rw [← h2.length]; exact hc, fun p hp => ?_⟩
      obtain ⟨e4, S4⟩ := S3.alloc_fz (o := .tup (cutV vs l u)) hp
      exact o3 _ _ e4 S4 _ (Rl.tup.mpr ⟨p, _, rfl, .inl (.inl (by show upd _ _ _ _ = _; exact upd_same)), (rls_cut h2 l u).mono e4⟩)
  · rename_i n
    obtain ⟨a', rfl, h1⟩ := Rl.ref.mp R3
    split at o3
    · rename_i xs hn
      obtain ⟨vs, q1, q2⟩ := sqL_of S3 h1 (.inl hn)
      exact .inl ⟨a', vs, rfl, q1, fun p hp => o3 _ _ Wd.le_more (S3.ofNew hp (rls_cut q2 l u)) _ (Rl.newRef S3)⟩
    · rename_i xs hn
      obtain ⟨vs, q1, q2⟩ := sqL_of S3 h1 (.inr hn)
      exact .inl ⟨a', vs, rfl, q1, fun p hp => o3 _ _ Wd.le_more (S3.ofNew hp (rls_cut q2 l u)) _ (Rl.newRef S3)⟩
    · exact o3.elim
  · exact o3.elim
def xCallI (T : Ls) (c : Fn) (f : Fe) (r : Fa) : Fe := fun ρ st => (f ρ st).bind fun d st => match d with
  | .obj i _ => match T.meth i 36 with
    | some g => (r ρ st).bind fun ds st => callD T c g (d :: ds) st
    | none => .stuck
  | .fn g => (r ρ st).bind fun ds st => callD T c g ds st
  | _ => .stuck
noncomputable def gPut (fo fi : Fe) : Fg := fun d ρ st => (fo ρ st).bind fun o st => (fi ρ st).bind fun i st => match putD o i d st with
  | .ok st' _ => .ok ρ st'
  | _ => .stuck
theorem rg_put {fo fi : Fe} {i : Expr} {pos' : Pos} (G : Gd L X Wx k c) (ho : RE L X Wx o fo) (hi : RE L X Wx i fi) : RG L X (.Subscript o i pos') (gPut fo fi) [] := by
  refine ⟨fun pins s σ H W st ρ d v u ρ' st' I S E R r oo => ?_⟩
  have hu : X.A.units + 1 < cLine := by have := G.room.units; omega
  unfold gPut at oo
  refine PySem.W.kas_sub (ho.seq I S E rfl (fun x st1 q => by rw [q] at oo; cases oo) (fun q => by rw [q] at oo; cases oo) fun od st1 W1 H1 x ov s1 q e1 I1 S1 R1 r1 => ?_)
  rw [q, Res.bind_ok] at oo
  refine hi.seq I1 S1 (E.mono e1) rfl (fun x st1 q => by rw [q] at oo; cases oo) (fun q => by rw [q] at oo; cases oo) fun iD st2 W2 H2 y iv s2 q e2 I2 S2 R2 r2 => ?_
  rw [q, Res.bind_ok] at oo
  have Rd := R.mono (e1.trans e2)
  have Ro := R1.mono e2
  have E2 := E.mono (e1.trans e2)
  have e12 := e1.trans e2
  unfold putD at oo
  split at oo
  · rename_i st3 _ hq
    split at hq
    · rename_i n
      obtain ⟨a', rfl, h1⟩ := Rl.ref.mp Ro
      obtain rfl : ov = Value.ref a' := r1
      split at hq
      · rename_i kvs hn
        split at hq
        · rename_i key hk
          split at hq
          · rename_i hc
            cases hq
            cases oo
            obtain ⟨vs, q1, q2⟩ := S2.cell n _ a' hn h1
            have hy := keyOf_ok R2 hk
            subst hy
            have hl : vs.length < sizeLine := by
              have := congrArg List.length q2.keys
              rw [List.length_map, List.length_map] at this
              rw [this]; exact hc.1
            exact d_setItem hu I2 (DPut.k q1 hl) r2 r fun s4 I4 => ⟨W2, σ, _, e12, I4, S2.write hn rfl h1 ⟨_, upd_same, putKC_ok q2 hc.2 Rd⟩, E2, Fram.rfl'⟩
          · cases hq
        · cases hq
      · rename_i ds hn
        split at hq
        · rename_i j
          split at hq
          · rename_i m hm
            cases hq
            cases oo
            obtain ⟨vs, q1, q2⟩ := S2.cell n _ a' hn h1
            refine thn (set_list pins s2 σ H2 (.ref a') y v (.ref a') iv u (fun H' => H' = upd H2 a' (.lst (vs.set m v))) I2 rfl r2 r ⟨a', vs, j, m, rfl, Rl.int.mp R2, q1, by rw [← q2.length]; exact hm, rfl⟩) fun _ s4 ⟨H4, I4, e4⟩ => ?_
            subst e4
            exact ⟨W2, σ, _, e12, I4, S2.write hn rfl h1 ⟨_, upd_same, rls_set Rd m q2⟩, E2, Fram.rfl'⟩
          · cases hq
        · cases hq
      · cases hq
    · cases hq
  · cases oo
end
end Gm
namespace Gm
open PySem PySem.Spec PyProof.Rows L2
section
variable {L : Lw} {X : Cx} {Wx : WX} {k : Nat} {c : Fn}
def toV : D → Option V
  | .non => some .non | .bl b => some (.bl b) | .int i => some (.int i) | .str z => some (.str z) | _ => none
def toVs : List D → Option (List V)
  | [] => some []
  | d :: ds => match toV d, toVs ds with
    | some v, some vs => some (v :: vs)
    | _, _ => none
def dicOf (d : D) (st : Store) : Option (List (Key × D)) := match d with
  | .ref n => match st[n]? with
    | some (.dic kvs) => some kvs
    | _ => none
  | _ => none
def inD (neg : Bool) (d1 d2 : D) (st : Store) : Res D := match seqOf d2 st with
  | some ds => match toV d1, toVs ds with
    | some v, some vs => .ok (.bl (if neg then !inV v vs else inV v vs)) st
    | _, _ => .stuck
  | none => match dicOf d2 st, keyOf d1 with
    | some kvs, some key => .ok (.bl ((valC kvs key).isSome != neg)) st
    | _, _ => .stuck
def inO (T : Ls) (c : Fn) (neg : Bool) (d1 d2 : D) (st : Store) : Res D := match d2 with
  | .obj i _ => match T.meth i 27 with
    | some f => ((callD T c f [d2, d1] st).bind asB).bind fun b st => .ok (.bl (b != neg)) st
    | none => .stuck
  | _ => inD neg d1 d2 st
theorem callType_meetsIn {prog : Program} {w : World} {A : Around} {E : Value → Shared → Prop} {s : Shared} {T newId initId : String} {Bn Bi : Builtin} {args : List Value} {S : PySem.Spec} {Q Q₁ : Value → Shared → Prop} (ft : TypeCalled T newId initId)
    (hct : checkTypeCall T ⟨args, []⟩ = pure ()) (hcn : checkBuiltinCall newId ⟨.type T :: args, []⟩ = pure ())
    (entryN : entryFor table newId = some Bn) (entryI : entryFor table initId = some Bi) (g : MeetsIn prog w (Bn ⟨.type T :: args, []⟩) S)
    (h : S A.in1 (wants Q₁ E) s)
    (hnext : ∀ obj s₁, Q₁ obj s₁ → s₁.TypeIs obj T ∧ argsOk initId ⟨obj :: args, []⟩ ∧ ∃ Si, Meets (Bi ⟨obj :: args, []⟩) Si ∧ Si A.in1 (wants (fun r s₂ => r = .none ∧ Q obj s₂) E) s₁) :
    wpAny (model prog w) A (call (.type T) args) Q E s := by
  obtain ⟨c, tl, hmro⟩ := ft.mro
  have hmade := ft.made
  have hsub := ft.sub
  refine wpAny_call (codeAny_of_tree ?_)
  show wpAny _ _ (callAny (.type T) _) _ _ _
  refine wpAny_pure ⟨Code.quiet_builtin _ (by decide +kernel), codeAny_builtin F.entry_type_call ?_⟩
  rw [Around.under_plain (weight_type_call_type T args []) (units_type_call_type T args [])]
  have h1 := ft.notType
  have h2 := ft.canCreate
  repeat (any_goals (first | assumption | wp_step))
  refine codeAny_mono (codeAny_call_builtin ft.plain entryN (wpAny_of_eq hcn (g A.in1 _ s h))) fun r s₁ hr => ?_
  cases r with
  | error e => exact hr
  | ok fl =>
    cases fl with
    | ret obj =>
      obtain ⟨hT, hok, Si, gi, hsi⟩ := hnext _ _ hr
      have hli := ft.init.lookup
      have hbi := ft.init.bind obj
      repeat (any_goals (first | assumption | wp_step))
      refine codeAny_mono (codeAny_call_builtin ft.init.plain entryI (ft.init.check _ _ _ _ _ _ _ _ hT hok (gi prog w A.in1 _ s₁ hsi))) fun r₂ s₂ hr₂ => ?_
      cases r₂ with
      | error e => exact hr₂
      | ok fl₂ =>
        cases fl₂ with
        | ret r =>
          obtain ⟨rfl, hq⟩ := hr₂
          repeat (any_goals (first | assumption | wp_step))
        | _ => exact hr₂.elim
    | _ => exact hr.elim
theorem meets_bool_any {prog : Program} {w : World} (v : Value) : MeetsIn prog w (Builtin.«bool.__new__» ⟨[.type "bool", v], []⟩) (fun A R s => wpAny (model prog w) A.in1 (truthy v) (fun b s' => R (.ok (.ret (.bool b))) s') (fun e s' => R (.error e) s') s) :=
  MeetsIn.of_wp fun A R s hs => by
    have f1 := F.conv_sub_bool
    unfold Builtin.«bool.__new__»
    repeat (any_goals (first | assumption | (refine wpAny_bind (m := truthy v) (wpAny_mono hs (fun b s' hb => ?_) fun _ _ e => e)) | wp_step))
    all_goals first | exact ⟨_, rfl, hb⟩ | exact ⟨_, rfl, hs⟩ | skip
def bBool (T : Ls) (c : Fn) (ds : List D) (st : Store) : Res D := match ds with
  | [.int i] => .ok (.bl (i != 0)) st
  | [.bl b] => .ok (.bl b) st
  | [.obj i es] => match T.meth i 34 with
    | some f => (callD T c f [.obj i es] st).bind fun d st => match d with
      | .bl b => .ok (.bl b) st
      | _ => .stuck
    | none => .stuck
  | _ => .stuck
theorem rc_bool (G : Gd L X Wx k c) : RCv L X Wx (.type "bool") (bBool L.toLs c) := fun pins s σ H W st ds xs us Q I S R r o => by
  unfold bBool at o
  split at o
  · rename_i i
    obtain ⟨v, rfl, R1⟩ := rls1 R
    exact call_bool1 pins s σ H _ us Q I r (.inl ⟨i, by rw [Rl.int.mp R1], o W H .rfl' S _ (Rl.bl.mpr rfl)⟩)
  · rename_i i
    obtain ⟨v, rfl, R1⟩ := rls1 R
    exact call_bool1 pins s σ H _ us Q I r (.inr ⟨i, by rw [Rl.bl.mp R1], o W H .rfl' S _ (Rl.bl.mpr rfl)⟩)
  · rename_i i es
    obtain ⟨v, rfl, R1⟩ := rls1 R
    split at o
    · rename_i f hm
      obtain ⟨hC, hF, M⟩ := G.fo.mt i 34 f hm
      have hs := M.at_
      rw [G.fo.nm 34 (by decide) (by decide) (by decide)] at hs
      obtain ⟨u, rfl, ru⟩ := vals1 r
      obtain ⟨a, dx, od, rfl, J⟩ := inst_of I S R1
      cases ru
      obtain ⟨m, Fr0⟩ := I.fr
      have o2 : Out X.K L Wx W σ (okE X.K L fun v H => ∃ b, v = .bl b ∧ Q (.bl b) H) (callD L.toLs c f [.obj i es] st) := by
        revert o
        generalize callD L.toLs c f [.obj i es] st = q
        cases q with
        | ok d s2 =>
          cases d with
          | bl b => exact fun o W' H' e' S' v R' => ⟨b, Rl.bl.mp R', o W' H' e' S' _ (Rl.bl.mpr rfl)⟩
          | _ => exact fun o => o.elim
        | err x s2 => exact fun o => o
        | stuck => exact fun o => o
      have sub : Sub X k X.A.in1.in1 := by
        have h : Sub X (k + 1 + 1) X.A := ⟨G.room.mono (by omega), rfl⟩
        exact h.in1.in1
      have ht : wpAny (model X.prog X.w) X.A.in1.in1 (truthy (.ref a)) (fun b s' => TP X pins σ (fun b H => Q (.bl b) H) b s') X.xe s := by
        refine PySem.W.truthy_K Fr0 I.ok.mod.kin J hs M.fn ?_
        refine wpAny_mono (G.callA sub hF I S (Rls.mk R1 (Rls.nil.mpr rfl)) (.cons rfl .nil) o2) (fun r s' z => ?_) fun _ _ z => z
        obtain ⟨v', H', I', rv, b, rfl, q⟩ := z
        cases rv
        exact ⟨H', I', q⟩
      refine callType_meetsIn (Q₁ := fun obj s1 => ∃ b, obj = .bool b ∧ TP X pins σ (fun b H => Q (.bl b) H) b s1) F.called_bool (F.typeCall_bool_1 _) (F.newCall_bool_1 _) F.entry_bool_new F.entry_object_init (meets_bool_any (.ref a)) ?_ ?_
      · exact wpAny_mono ht (fun b s' z => ⟨b, rfl, z⟩) fun _ _ z => z
      · rintro obj s1 ⟨b, rfl, H', I', q⟩
        refine ⟨rfl, F.args_object_init_2 _ _, _, object_init_meets F.called_bool.init.lookup F.called_bool.made F.newNe_bool, rfl, rfl, ⟨.bl b, H', I', rfl, q⟩⟩
    · exact o.elim
  · exact o.elim
end
end Gm
namespace Gm
open PySem PySem.Spec PyProof.Rows L2
def dvOk : He.Dv → Bool
  | .int _ => true
  | .bl _ => true
  | .str _ => true
  | .non => true
  | _ => false
theorem prpB_ok {K : PySem.W.Frag} {C g : Addr} {m : Str} (h : prpB K C m g = true) : ∃ p, PropOf K C m p g := by
  unfold prpB at h
  split at h
  · rename_i p hp
    rw [Bool.and_eq_true, Bool.and_eq_true] at h
    obtain ⟨h1, h2, h3⟩ := h
    split at h3
    · rename_i g' r hr
      have e : g' = g := eq_of_beq h3
      subst e
      exact ⟨p, hp, He.eqO_ok h1, of_decide_eq_true h2, r, hr⟩
    · cases h3
  · cases h
def stB (t : Tb) : Bool :=
  (t.cls.all fun c => (c.lay.all fun g => c.atn.contains g) && ((c.atn.all fun g => c.atn.all fun h => !(t.nm g == t.nm h) || g == h) && (c.atn.all fun g => c.meth.all fun p => !(t.nm g == t.nm p.1)))) &&
  (t.defs.all fun d => (d.d.dfl.all dvOk) && d.d.kwd.isEmpty)
theorem lookup_mem' {α β : Type} [BEq α] [LawfulBEq α] {k : α} {v : β} : ∀ {l : List (α × β)}, l.lookup k = some v → (k, v) ∈ l
  | [], h => by cases h
  | (a, b) :: r, h => by
    rw [List.lookup_cons] at h
    cases q : k == a with
    | true =>
      rw [q] at h
      cases h
      rw [eq_of_beq q]
      exact List.mem_cons_self ..
    | false =>
      rw [q] at h
      exact List.mem_cons_of_mem _ (lookup_mem' h)
theorem refO_ok {o : Option (Option Value)} (h : refO o = true) : ∃ rc, o = some rc ∧ (rc = none ∨ ∃ g : Addr, rc = some (.ref g)) := by
  unfold refO at h
  split at h
  · exact ⟨none, rfl, .inl rfl⟩
  · rename_i g; exact ⟨_, rfl, .inr ⟨g, rfl⟩⟩
  · cases h
section
variable {t : Tb} {K : PySem.W.Frag}
theorem clB_of (h : okB t K = true) {i : Nat} (hi : t.ls.isC i = true) : ∃ c, t.cls[i]? = some c ∧ clB K t c = true ∧ t.cad K i = He.ga K c.name ∧ t.ls.lay i = c.lay ∧ t.ls.atn i = c.atn ∧ (∀ m, t.ls.meth i m = c.meth.lookup m) := by
  have hl : i < t.cls.length := of_decide_eq_true hi
  have e := List.getElem?_eq_getElem hl
  unfold okB at h
  rw [Bool.and_eq_true] at h
  refine ⟨t.cls[i], e, List.all_eq_true.mp h.1 _ (List.getElem_mem hl), ?_, ?_, ?_, fun m => ?_⟩
  · unfold Tb.cad; rw [e]
  · show (match t.cls[i]? with | some c => c.lay | none => t.xlay (i - t.cls.length)) = _; rw [e]
  · show (match t.cls[i]? with | some c => c.atn | none => t.xlay (i - t.cls.length)) = _; rw [e]
  · show (match t.cls[i]? with | some c => c.meth.lookup m | none => none) = _; rw [e]
theorem prB_of (h : okB t K = true) {i j : Nat} (hi : t.ls.isC i = true) (hj : t.ls.isC j = true) : prB K t i j = true := by
  have hl : i < t.cls.length := of_decide_eq_true hi
  have hl2 : j < t.cls.length := of_decide_eq_true hj
  unfold okB at h
  rw [Bool.and_eq_true, Bool.and_eq_true] at h
  exact List.all_eq_true.mp (List.all_eq_true.mp h.2.1 i (List.mem_range.mpr hl)) j (List.mem_range.mpr hl2)
theorem clP_of {K : PySem.W.Frag} {t : Tb} {c : Cl} (h : clB K t c = true) : ClP K t c := by
  unfold clB at h
  simp only [Bool.and_eq_true] at h
  obtain ⟨⟨⟨⟨⟨⟨⟨⟨⟨⟨⟨⟨⟨⟨⟨⟨⟨c1, c2⟩, c3⟩, c4⟩, c5⟩, c6⟩, c7⟩, c8⟩, c9⟩, c10⟩, c11⟩, c12⟩, c13⟩, c14⟩, c15⟩, c16⟩, c17⟩, c18⟩ := h
  refine ⟨c1, c2, c3, He.eqO_ok c4, c5, c6, of_decide_eq_true c7, He.eqO_ok c8, fun p hp => ?_, ?_, ?_, ?_, fun g hg => He.eqO_ok (List.all_eq_true.mp c13 g hg), fun k hk => ?_, of_decide_eq_true c15, of_decide_eq_true c16, fun op hop => List.all_eq_true.mp c17 op hop, fun p hp => ?_⟩
  · have := List.all_eq_true.mp c9 p hp
    simp only [Bool.and_eq_true] at this
    obtain ⟨⟨⟨h1, h2⟩, h3⟩, h4⟩ := this
    exact ⟨of_decide_eq_true h1, He.eqO_ok h2, h3, h4⟩
  · exact Bool.or_eq_true_iff.mp c10
  · rcases Bool.or_eq_true_iff.mp c11 with h | h
    · exact .inl h
    · exact .inr (He.eqO_ok h)
  · rcases Bool.or_eq_true_iff.mp c12 with h | h
    · exact .inl h
    · rcases Bool.or_eq_true_iff.mp h with h | h
      · exact .inr (.inl h)
      · rw [Bool.and_eq_true] at h
        exact .inr (.inr ⟨He.eqO_ok h.1, He.eqO_ok h.2⟩)
  · have := List.all_eq_true.mp c14 k hk
    rw [Bool.and_eq_true] at this
    exact ⟨of_decide_eq_true this.1, of_decide_eq_true this.2⟩
  · have := List.all_eq_true.mp c18 p hp
    rw [Bool.and_eq_true] at this
    exact ⟨of_decide_eq_true this.1, prpB_ok this.2⟩
theorem ops9_all {op : Operator} (h : opn op ≠ 0) : op ∈ ops9 := by cases op <;> first | decide | exact absurd rfl h
def BindOk (t : Tb) (K : PySem.W.Frag) (f : Nat) : Prop := ∀ tl ∈ (t.lw K).dfl f, ∃ dvs dsV, Binds K ((t.lw K).fdt f) ((t.lw K).fps f) dsV ∧ Vals dvs dsV ∧ ∀ W, Rls K (t.lw K) W tl dvs
theorem fo_of {P : Program} {w : World} {mg : Str → Option Value} {base : Heap} (hB : okB t K = true) (hS : stB t = true) (hD : ∀ d ∈ t.defs, PySem.W.keepIn K (.ref (adr K d.d.at_)) = true) (hb : ∀ f, f < t.defs.length → BindOk t K f) :
    FOk (t.lw K) P w K mg base 0 (fun _ _ _ => .stuck) := by
  have hB' := hB
  unfold okB at hB'
  simp only [Bool.and_eq_true] at hB'
  obtain ⟨hcls, hprs, hfn, hog, hot⟩ := hB'
  unfold stB at hS
  rw [Bool.and_eq_true] at hS
  obtain ⟨hs1, hs2⟩ := hS
  have isC : ∀ i, (t.lw K).isC i = true → t.ls.isC i = true := fun i h => h
  have cOf := fun {i : Nat} (h : (t.lw K).isC i = true) => clB_of (t := t) (K := K) hB (isC i h)
  have stc : ∀ {i : Nat} {c : Cl}, t.cls[i]? = some c → (∀ g ∈ c.lay, g ∈ c.atn) ∧ (∀ g ∈ c.atn, ∀ h ∈ c.atn, t.nm g = t.nm h → g = h) ∧ (∀ g ∈ c.atn, ∀ p ∈ c.meth, t.nm g ≠ t.nm p.1) := fun {i c} e => by
    have := List.all_eq_true.mp hs1 c (List.mem_of_getElem? e)
    simp only [Bool.and_eq_true, List.all_eq_true, List.contains_iff_mem, Bool.or_eq_true, Bool.not_eq_true', beq_eq_false_iff_ne, beq_iff_eq] at this
    obtain ⟨h1, h2, h3⟩ := this
    refine ⟨h1, fun g hg h hh e => ?_, fun g hg p hp => h3 g hg p hp⟩
    rcases h2 g hg h hh with q | q
    · exact absurd e q
    · exact q
  have fadOf : ∀ {f : Nat}, (t.lw K).isF f = true → ∃ d, d ∈ t.defs ∧ (t.lw K).fad f = adr K d.d.at_ := fun {f} h => by
    have hl : f < t.defs.length := of_decide_eq_true h
    refine ⟨t.defs[f], List.getElem_mem hl, ?_⟩
    show (match t.defs[f]? with | some d => adr K d.d.at_ | none => 0) = _
    rw [List.getElem?_eq_getElem hl]
  have clOf : ∀ {i : Nat} {m f : Nat}, (t.lw K).meth i m = some f → ∃ c, t.cls[i]? = some c ∧ (t.lw K).isC i = true ∧ (m, f) ∈ c.meth ∧ c.meth.lookup m = some f := fun {i m f} h => by
    have h' : (match t.cls[i]? with | some c => c.meth.lookup m | none => none) = some f := h
    cases e : t.cls[i]? with
    | none => rw [e] at h'; cases h'
    | some c =>
      rw [e] at h'
      exact ⟨c, rfl, decide_eq_true (List.getElem?_eq_some_iff.mp e).1, lookup_mem' h', h'⟩
  have full : ∀ {i : Nat}, (t.lw K).isC i = true → ∃ c, t.cls[i]? = some c ∧ (t.lw K).cad i = He.ga K c.name ∧ (t.lw K).lay i = c.lay ∧ (t.lw K).atn i = c.atn ∧ (∀ m, (t.lw K).meth i m = c.meth.lookup m) ∧ ClP K t c := fun {i} h => by
    obtain ⟨c, e, hc, e1, e2, e3, e4⟩ := cOf h
    exact ⟨c, e, e1, e2, e3, e4, clP_of hc⟩
  refine { fn := ?_, kp := ?_, fi := ?_, bt := ?_, mt := ?_, mi := ?_, pr := ?_, cl := ?_, la := ?_, ly := ?_, li := ?_, lm := ?_, ci := ?_, nm := ?_, bi := ?_, rf := ?_, sb := ?_, sT := ?_, ob := ?_, oc := ?_, og := ?_, ot := ?_, ne := ?_, tb := ?_, ko := ?_, kt := ?_, kb := ?_, no := fun f hf => NiOk.none fun ds st z => by cases z }
  · exact fun f hf => ⟨fun vs H Q E h => h.1, fun A outer s H args us vs Q E _ _ _ _ h => by obtain ⟨_, _, _, _, _, _, o⟩ := h; exact o.elim⟩
  · intro f hf
    obtain ⟨d, hd, e⟩ := fadOf hf
    rw [e]; exact hD d hd
  · intro f hf
    obtain ⟨d, hd, e⟩ := fadOf hf
    rw [e]; exact List.all_eq_true.mp hfn d hd
  · exact fun f hf => hb f (of_decide_eq_true hf)
  · intro i m f h
    obtain ⟨c, e, hC, hm, _⟩ := clOf h
    obtain ⟨c', e', e1, _, _, _, hc⟩ := full hC
    rw [e] at e'; cases e'
    obtain ⟨h1, h2, h3, h4⟩ := hc.c9 (m, f) hm
    refine ⟨hC, decide_eq_true h1, ?_⟩
    rw [e1]
    exact ⟨h2, h3, h4⟩
  · intro i f h
    obtain ⟨c, e, hC, hm, hl⟩ := clOf h
    obtain ⟨c', e', e1, _, _, _, hc⟩ := full hC
    rw [e] at e'; cases e'
    obtain ⟨h1, h2, h3, h4⟩ := hc.c9 (37, f) hm
    rw [e1]
    refine ⟨?_, h2, h3, hc.c6⟩
    rcases hc.c10 with h | h
    · rw [hl] at h; cases h
    · exact h
  · intro i m f h
    have h' : (match t.cls[i]? with | some c => c.prop.lookup m | none => none) = some f := h
    cases e : t.cls[i]? with
    | none => rw [e] at h'; cases h'
    | some c =>
      rw [e] at h'
      have hC : (t.lw K).isC i = true := decide_eq_true (List.getElem?_eq_some_iff.mp e).1
      obtain ⟨c', e', e1, _, _, _, hc⟩ := full hC
      rw [e] at e'; cases e'
      obtain ⟨h1, h2⟩ := hc.c18 (m, f) (lookup_mem' h')
      refine ⟨hC, decide_eq_true h1, ?_⟩
      rw [e1]
      exact h2
  · intro i hC
    obtain ⟨c, e, e1, _, _, _, hc⟩ := full hC
    rw [e1]
    exact ⟨⟨hc.c1, hc.c2, hc.c3, hc.c4⟩, hc.c5, hc.c6⟩
  · intro i g hg
    have hg' : g ∈ (match t.cls[i]? with | some c => c.lay | none => t.xlay (i - t.cls.length)) := hg
    show g ∈ (match t.cls[i]? with | some c => c.atn | none => t.xlay (i - t.cls.length))
    cases e : t.cls[i]? with
    | none => rw [e] at hg'; exact hg'
    | some c => rw [e] at hg'; exact (stc e).1 g hg'
  · intro i g hC hg
    obtain ⟨c, e, e1, _, e3, _, hc⟩ := full hC
    rw [e3] at hg
    rw [e1]
    exact hc.c13 g hg
  · intro i g h hC hg hh
    obtain ⟨c, e, e1, _, e3, _, hc⟩ := full hC
    rw [e3] at hg hh
    exact (stc e).2.1 g hg h hh
  · intro i g m f hg h
    obtain ⟨c, e, hC, hm, hl⟩ := clOf h
    have hg' : g ∈ (match t.cls[i]? with | some c => c.atn | none => t.xlay (i - t.cls.length)) := hg
    rw [e] at hg'
    exact (stc e).2.2 g hg' (m, f) hm
  · intro i j hi hj he
    by_cases hij : i = j
    · exact hij
    · have := prB_of hB (isC i hi) (isC j hj)
      unfold prB at this
      simp only [Bool.and_eq_true, Bool.or_eq_true, beq_iff_eq, Bool.not_eq_true', beq_eq_false_iff_ne] at this
      rcases this.2 with q | q
      · exact q
      · exact absurd he q.2
  · intro n h0 h40 hne
    show t.nm n = nameOf n
    unfold Tb.nm
    rw [if_pos h40]
  · intro op hop
    cases op <;> first | exact absurd rfl hop | exact ⟨_, _, rfl, rfl⟩
  · intro i op hC hop
    obtain ⟨c, e, e1, _, _, _, hc⟩ := full hC
    rw [e1]
    exact refO_ok (hc.c17 op (ops9_all hop))
  · intro i j hi hj hij
    have := prB_of hB (isC i hi) (isC j hj)
    unfold prB at this
    simp only [Bool.and_eq_true, Bool.or_eq_true, beq_iff_eq, Bool.not_eq_true', beq_eq_false_iff_ne, decide_eq_true_eq] at this
    rcases this.2 with q | q
    · exact absurd q hij
    · exact q
  · intro i hC
    obtain ⟨c, e, e1, _, _, _, hc⟩ := full hC
    rw [e1]
    exact ⟨hc.c15, hc.c16⟩
  · intro i hC
    obtain ⟨c, e, e1, _, _, _, hc⟩ := full hC
    rw [e1]
    exact hc.c7
  · intro i hC
    obtain ⟨c, e, e1, _, _, _, hc⟩ := full hC
    rw [e1]
    exact hc.c8
  · exact of_decide_eq_true hog
  · exact of_decide_eq_true hot
  · intro i f h
    obtain ⟨c, e, hC, hm, hl⟩ := clOf h
    obtain ⟨c', e', e1, _, _, _, hc⟩ := full hC
    rw [e] at e'; cases e'
    rw [e1]
    rcases hc.c11 with h | h
    · rw [hl] at h; cases h
    · exact h
  · intro i hC h1 h2
    obtain ⟨c, e, e1, _, _, e4, hc⟩ := full hC
    rw [e1]
    rw [e4] at h1 h2
    rcases hc.c12 with h | h | h
    · rw [h1] at h; cases h
    · rw [h2] at h; cases h
    · exact h
  · intro i j hi hj
    have := prB_of hB (isC i hi) (isC j hj)
    unfold prB at this
    rw [Bool.and_eq_true] at this
    exact of_decide_eq_true this.1
  · intro i k hC hk
    obtain ⟨c, e, e1, _, _, _, hc⟩ := full hC
    rw [e1]
    exact (hc.c14 k hk).1
  · intro i k hC hk
    obtain ⟨c, e, e1, _, _, _, hc⟩ := full hC
    rw [e1]
    exact (hc.c14 k hk).2
theorem funG_of {d : He.DefD} {s : Stmt} {fd : FuncData} (F : FunD K d.name d.qual d.params d.body d.scope (d.dvs K) (d.kws K) (adr K d.at_) fd) (h1 : d.params = defArgs s) (h2 : d.body = defBody s) (h3 : d.scope = defScope s) :
    FunG K d.name d.qual s (adr K d.at_) ((fdO (K.lookup (adr K d.at_))).getD default) := by
  obtain ⟨oc, od, dV, kV, doc, pm, an, cdv, ct, osl, e, lk, hcd, _, _⟩ := F.ex
  rw [lk]
  exact ⟨oc, od, dV, kV, doc, pm, an, cdv, ct, osl, by rw [← h1, ← h2, ← h3]; exact e, lk, hcd⟩
theorem fd_eq {d : He.DefD} {fd : FuncData} (F : FunD K d.name d.qual d.params d.body d.scope (d.dvs K) (d.kws K) (adr K d.at_) fd) : (fdO (K.lookup (adr K d.at_))).getD default = fd := by
  obtain ⟨oc, od, dV, kV, doc, pm, an, cdv, ct, osl, e, lk, _⟩ := F.ex
  rw [lk]
  rfl
theorem rls_dv {L : Lw} {W : Wd} : ∀ {l : List He.Dv}, l.all dvOk = true → Rls K L W (l.map dvD) (l.map (He.Dv.v K))
  | [], _ => Rls.nil.mpr rfl
  | d :: ds, h => by
    rw [List.all_cons, Bool.and_eq_true] at h
    refine Rls.mk ?_ (rls_dv h.2)
    cases d with
    | int i => exact Rl.int.mpr rfl
    | bl i => exact Rl.bl.mpr rfl
    | str i => exact Rl.str.mpr rfl
    | non => exact Rl.non.mpr rfl
    | _ => exact absurd (show false = true from h.1) Bool.false_ne_true
theorem tails_at : ∀ {l : List He.Dv} {tl : List D}, tl ∈ tailsD l → ∃ j, j ≤ l.length ∧ tl = (l.drop j).map dvD
  | [], tl, h => ⟨0, Nat.le_refl _, by simpa [tailsD] using h⟩
  | d :: ds, tl, h => by
    unfold tailsD at h
    rcases List.mem_cons.mp h with rfl | h
    · exact ⟨0, Nat.zero_le _, rfl⟩
    · obtain ⟨j, hj, e⟩ := tails_at h
      exact ⟨j + 1, by simpa using hj, e⟩
theorem bind0 {f : Nat} {df : Df} {fd : FuncData} (e : t.defs[f]? = some df) (F : FunD K df.d.name df.d.qual df.d.params df.d.body df.d.scope (df.d.dvs K) (df.d.kws K) (adr K df.d.at_) fd) (hd : df.d.dfl = []) (hk : df.d.kwd = [])
    (h : ∀ (kV doc pm : Value) (an : Option Addr) (cdv ct : Value) (us : List Value), us.length = df.ps.length → bindArgs (PySem.W.fnOf df.d.name df.d.qual df.d.params df.d.body df.d.scope .none kV doc pm an cdv ct) ⟨us, []⟩ = pure (df.ps.zip us)) : BindOk t K f := by
  have ef : (t.lw K).fdt f = fd := by
    show (fdO (K.lookup (t.fad K f))).getD default = fd
    unfold Tb.fad
    rw [e]
    exact fd_eq F
  have ep : (t.lw K).fps f = df.ps := by
    show (match t.defs[f]? with | some d => d.ps | none => []) = _
    rw [e]
  have F' : FunD K df.d.name df.d.qual df.d.params df.d.body df.d.scope [] [] (adr K df.d.at_) fd := by
    have := F
    unfold He.DefD.dvs He.DefD.kws at this
    rw [hd, hk] at this
    exact this
  intro tl htl
  have htl' : tl ∈ (match t.defs[f]? with | some d => tailsD d.d.dfl | none => []) := htl
  rw [e, ] at htl'
  have htl2 : tl ∈ tailsD df.d.dfl := htl'
  rw [hd] at htl2
  have : tl = [] := by simpa [tailsD] using htl2
  subst this
  rw [ef, ep]
  exact ⟨[], [], FunD.bindsN F' h, .nil, fun W => Rls.nil.mpr rfl⟩
theorem bindJ {f : Nat} {df : Df} {fd : FuncData} (e : t.defs[f]? = some df) (F : FunD K df.d.name df.d.qual df.d.params df.d.body df.d.scope (df.d.dvs K) (df.d.kws K) (adr K df.d.at_) fd) (hdv : df.d.dfl.all dvOk = true) (hd : df.d.dfl ≠ []) (hlen : df.d.dfl.length ≤ df.ps.length)
    (h : ∀ j, j ≤ df.d.dfl.length → ∀ (T : Addr) (kV doc pm : Value) (an : Option Addr) (cdv ct : Value) (us its : List Value), us.length = df.ps.length - (df.d.dfl.length - j) → its.length = df.d.dfl.length →
      if j = df.d.dfl.length then bindArgs (PySem.W.fnOf df.d.name df.d.qual df.d.params df.d.body df.d.scope (.ref T) kV doc pm an cdv ct) ⟨us, []⟩ = pure (df.ps.zip us) ∨ ∃ k, bindArgs (PySem.W.fnOf df.d.name df.d.qual df.d.params df.d.body df.d.scope (.ref T) kV doc pm an cdv ct) ⟨us, []⟩ = seqItems? (.ref T) >>= k ∧ k (some its.toArray) = pure (df.ps.zip (us ++ its.drop j))
      else ∃ k, bindArgs (PySem.W.fnOf df.d.name df.d.qual df.d.params df.d.body df.d.scope (.ref T) kV doc pm an cdv ct) ⟨us, []⟩ = seqItems? (.ref T) >>= k ∧ k (some its.toArray) = pure (df.ps.zip (us ++ its.drop j))) : BindOk t K f := by
  have ef : (t.lw K).fdt f = fd := by
    show (fdO (K.lookup (t.fad K f))).getD default = fd
    unfold Tb.fad
    rw [e]
    exact fd_eq F
  have ep : (t.lw K).fps f = df.ps := by
    show (match t.defs[f]? with | some d => d.ps | none => []) = _
    rw [e]
  intro tl htl
  have htl' : tl ∈ (match t.defs[f]? with | some d => tailsD d.d.dfl | none => []) := htl
  rw [e] at htl'
  have htl2 : tl ∈ tailsD df.d.dfl := htl'
  obtain ⟨j, hj, rfl⟩ := tails_at htl2
  rw [ef, ep]
  have hne : df.d.dvs K ≠ [] := by
    unfold He.DefD.dvs
    intro z
    exact hd (List.map_eq_nil_iff.mp z)
  have hl : (df.d.dvs K).length = df.d.dfl.length := by unfold He.DefD.dvs; rw [List.length_map]
  have hR : ∀ W, Rls K (t.lw K) W ((df.d.dfl.drop j).map dvD) ((df.d.dvs K).drop j) := fun W => by
    unfold He.DefD.dvs
    rw [← List.map_drop]
    exact rls_dv (List.all_eq_true.mpr fun x hx => List.all_eq_true.mp hdv x (List.mem_of_mem_drop hx))
  have gen : (∀ (T : Addr) (kV doc pm : Value) (an : Option Addr) (cdv ct : Value) (us its : List Value), us.length = df.ps.length - (df.d.dfl.length - j) → its.length = (df.d.dvs K).length →
      ∃ k, bindArgs (PySem.W.fnOf df.d.name df.d.qual df.d.params df.d.body df.d.scope (.ref T) kV doc pm an cdv ct) ⟨us, []⟩ = seqItems? (.ref T) >>= k ∧ k (some its.toArray) = pure (df.ps.zip (us ++ its.drop j))) →
      ∃ dvs dsV, Binds K fd df.ps dsV ∧ Vals dvs dsV ∧ ∀ W, Rls K (t.lw K) W ((df.d.dfl.drop j).map dvD) dvs := fun hh => by
    obtain ⟨ds, h1, h2⟩ := F.binds1 (ps := df.ps) (df.ps.length - (df.d.dfl.length - j)) j hne (by rw [hl]; omega) hh
    exact ⟨_, ds, h2, h1, hR⟩
  by_cases hjl : j = df.d.dfl.length
  · have hdr : (df.d.dfl.drop j).map dvD = [] := by rw [hjl, List.drop_length]; rfl
    obtain ⟨oc, od, dV, kV, doc, pm, an, cdv, ct, osl, e2, lk, hcd, hD, hK⟩ := F.ex
    rcases hD with ⟨z, _⟩ | ⟨_, T, o, its, m, rfl, lT, oT, rT⟩
    · exact absurd z hne
    · refine ⟨[], [], fun s us X hlen => ?_, .nil, fun W => by rw [hdr]; exact Rls.nil.mpr rfl⟩
      rw [List.append_nil] at hlen ⊢
      have := h j hj T kV doc pm an cdv ct us its (by omega) (by rw [← hl]; exact rT.length.symm)
      rw [if_pos hjl] at this
      rcases this with q | ⟨k, q1, q2⟩
      · rw [e2]
        exact .of_eq q
      · refine BindsTo.of_looks fun M => ?_
        rw [e2, q1]
        refine looks_items X lT oT (.of_pure ?_)
        rw [q2, List.drop_of_length_le (by rw [← rT.length, hl]; omega), List.append_nil]
  · refine gen fun T kV doc pm an cdv ct us its h1 h2 => ?_
    have := h j hj T kV doc pm an cdv ct us its h1 (by rw [h2, hl])
    rw [if_neg hjl] at this
    exact this
end
section
variable {fa : List He.Fa} {fn : List He.DefD} {ex : PySem.W.Frag → Bool} {K : PySem.W.Frag}
theorem Says.fact (c : Says fa fn ex K) (i : Nat) {f : He.Fa} (h : fa[i]? = some f := by rfl) : f.ok K = true := List.all_eq_true.mp (Says.bits c).1.1 f (List.mem_of_getElem? h)
end
end Gm
namespace Gm
open PySem PySem.Spec PyProof.Rows L2
def sPar3 (i j l : Nat) (r : Fa) : Fs := fun ρ st => (r ρ st).toS ρ fun ds st => match ds with
  | [d, e, f] => .nx (((ρ.set i (some d)).set j (some e)).set l (some f)) st
  | _ => .stuck
section
variable {L : Lw} {X : Cx} {Wx : WX} {k : Nat} {c : Fn} {x : Str} {p pos pos' : Pos} {e : Expr} {es : List Expr} {f : Fe} {r : Fa}
theorem gv (i : Nat) (G : Gd L X Wx k c) (hN : X.N[i]? = some x := by rfl) (hx : Loc X.env.scope x := by first | exact Or.inl rfl | exact Or.inr rfl) (hf : X.fn x = true ∨ X.env.scope.names.lookup x = some .local := by first | exact .inl rfl | exact .inr rfl) : RG L X (.Name x pos) (gNm i) [i] :=
  rg_name (pg_name G.nd hN hx hf)
theorem sv (i : Nat) (G : Gd L X Wx k c) (he : RE L X Wx e f) (hN : X.N[i]? = some x := by rfl) (hx : Loc X.env.scope x := by first | exact Or.inl rfl | exact Or.inr rfl) (hs : swapsWith e (some (.Name x pos')) pos.line X.env = pure false := by rfl)
    (hf : X.fn x = true ∨ X.env.scope.names.lookup x = some .local := by first | exact .inl rfl | exact .inr rfl) : RS L X Wx (.Assign [.Name x pos'] e pos) (sAsg f (gNm i)) := rs_set G.nd hN hx he hs hf
theorem gt {tgs : List Expr} {kk : Nat} {rr : List D → Ev → Store → Res Ev} {ts : List Nat} (G : Gd L X Wx k c) (h : RGs L X tgs rr ts) (hn : (assignEach tgs X.env).length = tgs.length := by rfl) (hst : (assignEach tgs X.env).findIdx? (·.1) = none := by rfl) : RG L X (.Tuple tgs kk pos) (gTp rr) ts := rg_tup G.calm h hn hst
theorem pr2 {y : Str} {a b : Expr} {py pt pt2 : Pos} {kt k2} (i j : Nat) (G : Gd L X Wx k c) (ha : RA L X Wx [a, b] r) (hij : i ≠ j := by decide) (hi : X.N[i]? = some x := by rfl) (hj : X.N[j]? = some y := by rfl)
    (hx : X.env.scope.names.lookup x = some .local := by rfl) (hy : X.env.scope.names.lookup y = some .local := by rfl)
    (hw : swappedStores [.Tuple [.Name x p, .Name y py] kt pt] (.Tuple [a, b] k2 pt2) X.env = pure (some [x, y]) := by rfl)
    (hs : swapsWithSole [.Tuple [.Name x p, .Name y py] kt pt] (.Tuple [a, b] k2 pt2) pos.line X.env = pure false := by rfl) :
    RS L X Wx (.Assign [.Tuple [.Name x p, .Name y py] kt pt] (.Tuple [a, b] k2 pt2) pos) (sPar i j r) := rs_par G.calm G.nd hi hj hij hx hy ha hw hs
end
def tIfE (t u v : Ft) : Ft := fun ρ st => (t ρ st).bind fun q st => if q then u ρ st else v ρ st
theorem bb_abs : bootBuiltins "abs" = some (.builtin "abs") := by decide +kernel
theorem bb_len : bootBuiltins "len" = some (.builtin "len") := by decide +kernel
theorem bb_max : bootBuiltins "max" = some (.builtin "max") := by decide +kernel
theorem bb_int : bootBuiltins "int" = some (.type "int") := by decide +kernel
theorem bb_list : bootBuiltins "list" = some (.type "list") := by decide +kernel
theorem bb_bool : bootBuiltins "bool" = some (.type "bool") := by decide +kernel
theorem bb_str : bootBuiltins "str" = some (.type "str") := by decide +kernel
def AllN (P : Nat → Prop) : Nat → Nat → Prop
  | _, 0 => True
  | i, n + 1 => P i ∧ AllN P (i + 1) n
theorem allN {P : Nat → Prop} : ∀ {i n : Nat}, AllN P i n → ∀ f, i ≤ f → f < i + n → P f
  | i, 0, _, f, h1, h2 => absurd h2 (by omega)
  | i, n + 1, h, f, h1, h2 => by
    by_cases e : f = i
    · subst e; exact h.1
    · exact allN h.2 f (by omega) (by omega)
def pickF (b : List (List D → Store → Res D)) (ns : List (Nat × (List D → Store → Res D))) (f : Nat) : List D → Store → Res D := match b[f]? with
  | some m => m
  | none => match ns.find? fun p => p.1 + niB == f with
    | some p => p.2
    | none => fun _ _ => .stuck
theorem pickF_none {b : List (List D → Store → Res D)} {ns : List (Nat × (List D → Store → Res D))} {f : Nat} (hb : b.length ≤ niB) (hn : ∀ p ∈ ns, p.1 ≠ f) : pickF b ns (f + niB) = fun _ _ => .stuck := by
  unfold pickF
  rw [List.getElem?_eq_none (by omega)]
  have : ns.find? (fun p => p.1 + niB == f + niB) = none := by
    rw [List.find?_eq_none]
    intro p hp
    have := hn p hp
    simp
    exact this
  rw [this]
end Gm
namespace Gm
open PySem PySem.Spec PyProof.Rows L2
theorem cx_no {P : Program} {w : World} {H : Hp} {s : Shared} {e : Value} {s' : Shared} : L2.CX P w [] H s (fun _ _ _ => False) e s' → False := fun ⟨_, _, _, _, _, _, _, _, _, _, _, _, z⟩ => z
end Gm
namespace Gm
open PySem PySem.Spec PyProof.Rows L2
section
variable (ρ : Ev) (st : Store) (T : Ls) (c : Fn) (f h k : Fe) (r : Fa) (t u v : Ft) (a b : Fs)
@[simp] theorem ap_sSeq : sSeq a b ρ st = (a ρ st).seq b := rfl
@[simp] theorem ap_sNx : sNx ρ st = .nx ρ st := rfl
@[simp] theorem ap_sNo : sNo ρ st = .stuck := rfl
@[simp] theorem ap_sBk : sBk ρ st = .bk ρ st := rfl
@[simp] theorem ap_sCt : sCt ρ st = .ct ρ st := rfl
def kRt (d : D) (st : Store) : SR := .rt d st
@[simp] theorem kRt_ (d : D) : kRt d st = .rt d st := rfl
@[simp] theorem ap_sRet : sRet f ρ st = (f ρ st).toS ρ kRt := rfl
@[simp] theorem ap_sRetN : sRetN ρ st = .rt .non st := rfl
def kIf (a b : Fs) (ρ : Ev) (q : Bool) (st : Store) : SR := if q then a ρ st else b ρ st
@[simp] theorem kIf_t : kIf a b ρ true st = a ρ st := rfl
@[simp] theorem kIf_f : kIf a b ρ false st = b ρ st := rfl
@[simp] theorem ap_sIf : sIf t a b ρ st = (t ρ st).toS ρ (kIf a b ρ) := rfl
def kNx (ρ : Ev) (d : D) (st : Store) : SR := .nx ρ st
@[simp] theorem kNx_ (d : D) : kNx ρ d st = .nx ρ st := rfl
@[simp] theorem ap_sExpr : sExpr f ρ st = (f ρ st).toS ρ (kNx ρ) := rfl
def asgK (g : Fg) (ρ : Ev) (d : D) (st : Store) : SR := match g d ρ st with
  | .ok ρ' st' => .nx ρ' st'
  | _ => .stuck
@[simp] theorem ap_sAsg (g : Fg) : sAsg f g ρ st = (f ρ st).toS ρ (asgK g ρ) := rfl
@[simp] theorem asgK_nm (i : Nat) (d : D) : asgK (gNm i) ρ d st = .nx (ρ.set i (some d)) st := rfl
@[simp] theorem ap_gNm (i : Nat) (d : D) : gNm i d ρ st = .ok (ρ.set i (some d)) st := rfl
@[simp] theorem ap_gsNil : gsNil [] ρ st = .ok ρ st := rfl
def kGs (q : List D → Ev → Store → Res Ev) (ds : List D) (ρ : Ev) (st : Store) : Res Ev := q ds ρ st
@[simp] theorem kGs_ (q : List D → Ev → Store → Res Ev) (ds : List D) : kGs q ds ρ st = q ds ρ st := rfl
@[simp] theorem ap_gsCons (g : Fg) (q : List D → Ev → Store → Res Ev) (d : D) (ds : List D) : gsCons g q (d :: ds) ρ st = (g d ρ st).bind (kGs q ds) := rfl
@[simp] theorem ap_gTp (q : List D → Ev → Store → Res Ev) (ds : List D) : gTp q (.tup ds) ρ st = q ds ρ st := rfl
def evK (r : Res Ev) : SR := match r with
  | .ok ρ' st' => .nx ρ' st'
  | _ => .stuck
@[simp] theorem evK_ok : evK (.ok ρ st) = .nx ρ st := rfl
@[simp] theorem asgK_tp (q : List D → Ev → Store → Res Ev) (d : D) : asgK (gTp q) ρ d st = evK (gTp q d ρ st) := rfl
def kPar (i j : Nat) (ρ : Ev) (ds : List D) (st : Store) : SR := match ds with
  | [d, e] => .nx ((ρ.set i (some d)).set j (some e)) st
  | _ => .stuck
@[simp] theorem kPar_ (i j : Nat) (d e : D) : kPar i j ρ [d, e] st = .nx ((ρ.set i (some d)).set j (some e)) st := rfl
@[simp] theorem ap_sPar (i j : Nat) : sPar i j r ρ st = (r ρ st).toS ρ (kPar i j ρ) := rfl
def kPar3 (i j l : Nat) (ρ : Ev) (ds : List D) (st : Store) : SR := match ds with
  | [d, e, f] => .nx (((ρ.set i (some d)).set j (some e)).set l (some f)) st
  | _ => .stuck
@[simp] theorem kPar3_ (i j l : Nat) (d e f : D) : kPar3 i j l ρ [d, e, f] st = .nx (((ρ.set i (some d)).set j (some e)).set l (some f)) st := rfl
@[simp] theorem ap_sPar3 (i j l : Nat) : sPar3 i j l r ρ st = (r ρ st).toS ρ (kPar3 i j l ρ) := rfl
noncomputable def kFor (g : Fg) (b : Fs) (ρ : Ev) (p : List D × (Store → Prop)) (st : Store) : SR := forI p.2 g b p.1 ρ st
@[simp] theorem kFor_ (g : Fg) (ds : List D) (q : Store → Prop) : kFor g b ρ (ds, q) st = forI q g b ds ρ st := rfl
@[simp] theorem ap_sFor (fi : Fi) (g : Fg) : sFor fi g b ρ st = (fi ρ st).toS ρ (kFor g b ρ) := rfl
@[simp] theorem ap_xK (d : D) : xK d ρ st = .ok d st := rfl
def vr (o : Option (Option D)) (st : Store) : Res D := match o with | some (some d) => .ok d st | _ => .stuck
@[simp] theorem vr_ (d : D) : vr (some (some d)) st = .ok d st := rfl
@[simp] theorem ap_xVar (i : Nat) : xVar i ρ st = vr ρ[i]? st := rfl
@[simp] theorem ap_xUn (g : D → Store → Res D) : xUn g f ρ st = (f ρ st).bind g := rfl
def kB2 (g : D → D → Store → Res D) (a b : D) (st : Store) : Res D := g a b st
@[simp] theorem kB2_ (g : D → D → Store → Res D) (a b : D) : kB2 g a b st = g a b st := rfl
def kB1 (g : D → D → Store → Res D) (h : Fe) (ρ : Ev) (a : D) (st : Store) : Res D := (h ρ st).bind (kB2 g a)
@[simp] theorem kB1_ (g : D → D → Store → Res D) (a : D) : kB1 g h ρ a st = (h ρ st).bind (kB2 g a) := rfl
@[simp] theorem ap_xBin (g : D → D → Store → Res D) : xBin g f h ρ st = (f ρ st).bind (kB1 g h ρ) := rfl
@[simp] theorem ap_aNil : aNil ρ st = .ok [] st := rfl
def kC2 (a : D) (l : List D) (st : Store) : Res (List D) := .ok (a :: l) st
@[simp] theorem kC2_ (a : D) (l : List D) : kC2 a l st = .ok (a :: l) st := rfl
def kC1 (r : Fa) (ρ : Ev) (a : D) (st : Store) : Res (List D) := (r ρ st).bind (kC2 a)
@[simp] theorem kC1_ (a : D) : kC1 r ρ a st = (r ρ st).bind (kC2 a) := rfl
@[simp] theorem ap_aCons : aCons f r ρ st = (f ρ st).bind (kC1 r ρ) := rfl
def kTp (l : List D) (st : Store) : Res D := .ok (.tup l) st
@[simp] theorem kTp_ (l : List D) : kTp l st = .ok (.tup l) st := rfl
@[simp] theorem ap_xTup : xTup r ρ st = (r ρ st).bind kTp := rfl
@[simp] theorem ap_xLst : xLst r ρ st = (r ρ st).bind newLst := rfl
@[simp] theorem ap_tOf (g : D → Store → Res Bool) : tOf g f ρ st = (f ρ st).bind g := rfl
def kNot (b : Bool) (st : Store) : Res Bool := .ok (!b) st
@[simp] theorem kNot_ (b : Bool) : kNot b st = .ok (!b) st := rfl
@[simp] theorem ap_tNot : tNot t ρ st = (t ρ st).bind kNot := rfl
@[simp] theorem ap_tTrue : tTrue ρ st = .ok true st := rfl
def kAn (u : Ft) (ρ : Ev) (b : Bool) (st : Store) : Res Bool := if b then u ρ st else .ok false st
@[simp] theorem kAn_t : kAn u ρ true st = u ρ st := rfl
@[simp] theorem kAn_f : kAn u ρ false st = .ok false st := rfl
@[simp] theorem ap_tAnd : tAnd t u ρ st = (t ρ st).bind (kAn u ρ) := rfl
def kOr (u : Ft) (ρ : Ev) (b : Bool) (st : Store) : Res Bool := if b then .ok true st else u ρ st
@[simp] theorem kOr_t : kOr u ρ true st = .ok true st := rfl
@[simp] theorem kOr_f : kOr u ρ false st = u ρ st := rfl
@[simp] theorem ap_tOr : tOr t u ρ st = (t ρ st).bind (kOr u ρ) := rfl
def kTi (u v : Ft) (ρ : Ev) (b : Bool) (st : Store) : Res Bool := if b then u ρ st else v ρ st
@[simp] theorem kTi_t : kTi u v ρ true st = u ρ st := rfl
@[simp] theorem kTi_f : kTi u v ρ false st = v ρ st := rfl
@[simp] theorem ap_tIfE : tIfE t u v ρ st = (t ρ st).bind (kTi u v ρ) := rfl
def kEi (f h : Fe) (ρ : Ev) (b : Bool) (st : Store) : Res D := if b then f ρ st else h ρ st
@[simp] theorem kEi_t : kEi f h ρ true st = f ρ st := rfl
@[simp] theorem kEi_f : kEi f h ρ false st = h ρ st := rfl
@[simp] theorem ap_xIf : xIf t f h ρ st = (t ρ st).bind (kEi f h ρ) := rfl
def kN2 (b : Bool) (st : Store) : Res D := .ok (.bl (!b)) st
@[simp] theorem kN2_ (b : Bool) : kN2 b st = .ok (.bl (!b)) st := rfl
def kN1 (g : D → Store → Res Bool) (d : D) (st : Store) : Res D := (g d st).bind kN2
@[simp] theorem kN1_ (g : D → Store → Res Bool) (d : D) : kN1 g d st = (g d st).bind kN2 := rfl
@[simp] theorem ap_xNot (g : D → Store → Res Bool) : xNot g f ρ st = (f ρ st).bind (kN1 g) := rfl
def kA2 (h : Fe) (ρ : Ev) (d : D) (b : Bool) (st : Store) : Res D := if b then h ρ st else .ok d st
@[simp] theorem kA2_t (d : D) : kA2 h ρ d true st = h ρ st := rfl
@[simp] theorem kA2_f (d : D) : kA2 h ρ d false st = .ok d st := rfl
def kA1 (g : D → Store → Res Bool) (h : Fe) (ρ : Ev) (d : D) (st : Store) : Res D := (g d st).bind (kA2 h ρ d)
@[simp] theorem kA1_ (g : D → Store → Res Bool) (d : D) : kA1 g h ρ d st = (g d st).bind (kA2 h ρ d) := rfl
@[simp] theorem ap_xAnd (g : D → Store → Res Bool) : xAnd g f h ρ st = (f ρ st).bind (kA1 g h ρ) := rfl
def kO2 (h : Fe) (ρ : Ev) (d : D) (b : Bool) (st : Store) : Res D := if b then .ok d st else h ρ st
@[simp] theorem kO2_t (d : D) : kO2 h ρ d true st = .ok d st := rfl
@[simp] theorem kO2_f (d : D) : kO2 h ρ d false st = h ρ st := rfl
def kO1 (g : D → Store → Res Bool) (h : Fe) (ρ : Ev) (d : D) (st : Store) : Res D := (g d st).bind (kO2 h ρ d)
@[simp] theorem kO1_ (g : D → Store → Res Bool) (d : D) : kO1 g h ρ d st = (g d st).bind (kO2 h ρ d) := rfl
@[simp] theorem ap_xOr (g : D → Store → Res Bool) : xOr g f h ρ st = (f ρ st).bind (kO1 g h ρ) := rfl
def kH5 (g' : D → D → Store → Res D) (tr : D → Store → Res Bool) (b e : D) (st : Store) : Res Bool := (g' b e st).bind tr
@[simp] theorem kH5_ (g' : D → D → Store → Res D) (tr : D → Store → Res Bool) (b e : D) : kH5 g' tr b e st = (g' b e st).bind tr := rfl
def kH4 (g' : D → D → Store → Res D) (tr : D → Store → Res Bool) (k : Fe) (ρ : Ev) (b : D) (q : Bool) (st : Store) : Res Bool := if q then (k ρ st).bind (kH5 g' tr b) else .ok false st
@[simp] theorem kH4_t (g' : D → D → Store → Res D) (tr : D → Store → Res Bool) (b : D) : kH4 g' tr k ρ b true st = (k ρ st).bind (kH5 g' tr b) := rfl
@[simp] theorem kH4_f (g' : D → D → Store → Res D) (tr : D → Store → Res Bool) (b : D) : kH4 g' tr k ρ b false st = .ok false st := rfl
def kH3 (g' : D → D → Store → Res D) (tr : D → Store → Res Bool) (k : Fe) (ρ : Ev) (b : D) (c : D) (st : Store) : Res Bool := (tr c st).bind (kH4 g' tr k ρ b)
@[simp] theorem kH3_ (g' : D → D → Store → Res D) (tr : D → Store → Res Bool) (b c : D) : kH3 g' tr k ρ b c st = (tr c st).bind (kH4 g' tr k ρ b) := rfl
def kH2 (g g' : D → D → Store → Res D) (tr : D → Store → Res Bool) (k : Fe) (ρ : Ev) (a b : D) (st : Store) : Res Bool := (g a b st).bind (kH3 g' tr k ρ b)
@[simp] theorem kH2_ (g g' : D → D → Store → Res D) (tr : D → Store → Res Bool) (a b : D) : kH2 g g' tr k ρ a b st = (g a b st).bind (kH3 g' tr k ρ b) := rfl
def kH1 (g g' : D → D → Store → Res D) (tr : D → Store → Res Bool) (h k : Fe) (ρ : Ev) (a : D) (st : Store) : Res Bool := (h ρ st).bind (kH2 g g' tr k ρ a)
@[simp] theorem kH1_ (g g' : D → D → Store → Res D) (tr : D → Store → Res Bool) (a : D) : kH1 g g' tr h k ρ a st = (h ρ st).bind (kH2 g g' tr k ρ a) := rfl
@[simp] theorem ap_tChain (g g' : D → D → Store → Res D) (tr : D → Store → Res Bool) : tChain g g' tr f h k ρ st = (f ρ st).bind (kH1 g g' tr h k ρ) := rfl
@[simp] theorem ap_xCall (i : Nat) : xCall T c i r ρ st = (r ρ st).bind (callD T c i) := rfl
@[simp] theorem ap_xMk (i : Nat) : xMk T c i r ρ st = (r ρ st).bind (mkD T c i) := rfl
@[simp] theorem ap_xFld (g : Nat) : xFld T c g f ρ st = (f ρ st).bind (fldD T c g) := rfl
def kMe (T : Ls) (c : Fn) (g : Nat) (d : D) (es : List D) (st : Store) : Res D := callD T c g (d :: es) st
@[simp] theorem kMe_ (g : Nat) (d : D) (es : List D) : kMe T c g d es st = callD T c g (d :: es) st := rfl
def methK (T : Ls) (c : Fn) (m : Nat) (r : Fa) (ρ : Ev) (d : D) (st : Store) : Res D := match whoD T m d st with
  | some g => (r ρ st).bind (kMe T c g d)
  | none => .stuck
@[simp] theorem ap_xMethW (m : Nat) : xMethW T c m f r ρ st = (f ρ st).bind (methK T c m r ρ) := rfl
theorem methK_obj {m i g : Nat} {ds : List D} (hm : T.meth i m = some g) : methK T c m r ρ (.obj i ds) st = (r ρ st).bind (kMe T c g (.obj i ds)) := by
  unfold methK whoD
  simp only [hm]
def ciK (T : Ls) (c : Fn) (r : Fa) (ρ : Ev) (d : D) (st : Store) : Res D := match d with
  | .obj i _ => match T.meth i 36 with
    | some g => (r ρ st).bind (kMe T c g d)
    | none => .stuck
  | .fn g => (r ρ st).bind (callD T c g)
  | _ => .stuck
@[simp] theorem ciK_fn (g : Nat) : ciK T c r ρ (.fn g) st = (r ρ st).bind (callD T c g) := rfl
end
noncomputable section
variable (ρ : Ev) (st : Store)
noncomputable def kGp2 (d o : D) (ρ : Ev) (i : D) (st : Store) : Res Ev := match putD o i d st with
  | .ok st' _ => .ok ρ st'
  | _ => .stuck
noncomputable def kGp1 (fi : Fe) (d : D) (ρ : Ev) (o : D) (st : Store) : Res Ev := (fi ρ st).bind (kGp2 d o ρ)
@[simp] theorem kGp1_ (fi : Fe) (d o : D) : kGp1 fi d ρ o st = (fi ρ st).bind (kGp2 d o ρ) := rfl
@[simp] theorem ap_gPut (fo fi : Fe) (d : D) : gPut fo fi d ρ st = (fo ρ st).bind (kGp1 fi d ρ) := rfl
theorem kGp2_ok {d o i : D} {st' st2 : Store} (h : putD o i d st = .ok st' st2) : kGp2 d o ρ i st = .ok ρ st' := by
  unfold kGp2
  rw [h]
end
section
variable (ρ : Ev) (st : Store) (T : Ls) (c : Fn) (f h k : Fe) (r : Fa) (t u v : Ft) (a b : Fs)
@[simp] theorem ap_xCallI : xCallI T c f r ρ st = (f ρ st).bind (ciK T c r ρ) := rfl
def fldK (T : Ls) (g : Nat) (d : D) (ρ : Ev) (o : D) (st : Store) : SR := match setD T g d o st with
  | .ok st' _ => .nx ρ st'
  | _ => .stuck
def fldK1 (T : Ls) (g : Nat) (f : Fe) (ρ : Ev) (d : D) (st : Store) : SR := (f ρ st).toS ρ (fldK T g d ρ)
@[simp] theorem fldK1_ (g : Nat) (d : D) : fldK1 T g f ρ d st = (f ρ st).toS ρ (fldK T g d ρ) := rfl
@[simp] theorem ap_sFldD (g : Nat) : sFldD T g f h ρ st = (h ρ st).toS ρ (fldK1 T g f ρ) := rfl
@[simp] theorem ap_xBi (g : List D → Store → Res D) : xBi g r ρ st = (r ρ st).bind g := rfl
@[simp] theorem ap_xIso (j : Nat) : xIso T j f ρ st = (f ρ st).bind (isoD T j) := rfl
@[simp] theorem ap_xIst (s : String) : xIst T s f ρ st = (f ρ st).bind (istD T s) := rfl
@[simp] theorem tru_bl (q : Bool) : truD T c (.bl q) st = .ok q st := rfl
@[simp] theorem tru_int (i : Int) : truD T c (.int i) st = .ok (i != 0) st := rfl
@[simp] theorem tru_non : truD T c .non st = .ok false st := rfl
@[simp] theorem iso_obj (i j : Nat) (ds : List D) : isoD T j (.obj i ds) st = if T.isC i = true then .ok (.bl (T.sub i j)) st else .stuck := rfl
@[simp] theorem iso_int (j : Nat) (i : Int) : isoD T j (.int i) st = .ok (.bl false) st := rfl
@[simp] theorem iso_non (j : Nat) : isoD T j .non st = .ok (.bl false) st := rfl
@[simp] theorem iso_tup (j : Nat) (ds : List D) : isoD T j (.tup ds) st = .ok (.bl false) st := rfl
@[simp] theorem ist_int (s : String) (i : Int) : istD T s (.int i) st = .ok (.bl ("int" == s || ("int" == "bool" && s == "int"))) st := rfl
@[simp] theorem ist_obj (s : String) (i : Nat) (ds : List D) : istD T s (.obj i ds) st = if T.isC i = true then .ok (.bl false) st else .stuck := rfl
@[simp] theorem b_abs (i : Int) : bAbs [.int i] st = .ok (.int (if i < 0 then -i else i)) st := rfl
@[simp] theorem b_int (i : Int) : bInt [.int i] st = .ok (.int i) st := rfl
@[simp] theorem b_intb (q : Bool) : bInt [.bl q] st = .ok (.int (if q then 1 else 0)) st := rfl
@[simp] theorem bin_ii (op : Operator) (i j : Int) : binD T c op (.int i) (.int j) st = intBin op i j st := rfl
@[simp] theorem ib_add (i j : Int) : intBin .Add i j st = .ok (.int (i + j)) st := rfl
@[simp] theorem ib_sub (i j : Int) : intBin .Sub i j st = .ok (.int (i - j)) st := rfl
theorem ib_mul {i j : Int} (h : IntMulOk i j) : intBin .Mult i j st = .ok (.int (i * j)) st := if_pos h
theorem ib_fdiv {i j : Int} (h : j ≠ 0 ∧ j.natAbs.log2 < 9000) : intBin .FloorDiv i j st = .ok (.int (i.fdiv j)) st := if_pos h
theorem ib_mod {i j : Int} (h : j ≠ 0) : intBin .Mod i j st = .ok (.int (i.fmod j)) st := if_pos h
@[simp] theorem neg_int' (i : Int) : negD T c (.int i) st = .ok (.int (-i)) st := rfl
@[simp] theorem ord_ii (op : CmpOp) (i j : Int) : ordD T c op (.int i) (.int j) st = match ltI op i j with
      | some b => .ok (.bl b) st
      | none => .stuck := rfl
@[simp] theorem lt_lt (i j : Int) : ltI .Lt i j = some (decide (i < j)) := rfl
@[simp] theorem lt_le (i j : Int) : ltI .LtE i j = some (decide (i ≤ j)) := rfl
@[simp] theorem lt_gt (i j : Int) : ltI .Gt i j = some (decide (j < i)) := rfl
@[simp] theorem lt_ge (i j : Int) : ltI .GtE i j = some (decide (j ≤ i)) := rfl
@[simp] theorem eq_ii (neg : Bool) (i j : Int) : eqB T c neg (.int i) (.int j) st = .ok (.bl ((i == j) != neg)) st := rfl
@[simp] theorem isno_non (neg : Bool) : isNo neg .non .non st = .ok (.bl (!neg)) st := rfl
@[simp] theorem isno_int (neg : Bool) (i : Int) : isNo neg (.int i) .non st = .ok (.bl neg) st := rfl
@[simp] theorem isno_bl (neg p q : Bool) : isNo neg (.bl p) (.bl q) st = .ok (.bl ((p == q) != neg)) st := rfl
@[simp] theorem isno_obj (neg : Bool) (i : Nat) (ds : List D) : isNo neg (.obj i ds) .non st = .ok (.bl neg) st := rfl
@[simp] theorem sub_tup (ds : List D) (i : Int) : subD (.tup ds) (.int i) st = optR (atI ds i) st := rfl
@[simp] theorem optR_some (d : D) : optR (some d) st = .ok d st := rfl
@[simp] theorem at0 (d : D) (ds : List D) : atI (d :: ds) 0 = some d := atI_nat (j := 0) rfl
@[simp] theorem at1 (d e : D) (ds : List D) : atI (d :: e :: ds) 1 = some e := atI_nat (j := 1) rfl
@[simp] theorem at2 (d e f : D) (ds : List D) : atI (d :: e :: f :: ds) 2 = some f := atI_nat (j := 2) rfl
end
theorem fnD_rt {n : Nat} {b : Fs} {ds : List D} {st : Store} {d : D} {st' : Store} (h : b (startE n ds) st = .rt d st') : fnD n b ds st = tidy st (.ok d st') := by
  unfold fnD runB
  rw [h]
theorem fnD_rt0 {n : Nat} {b : Fs} {ds : List D} {st : Store} {d : D} (h : b (startE n ds) st = .rt d st) (hd : noRef st.length d = true) : fnD n b ds st = .ok d st := by
  rw [fnD_rt h, tidy_same0 hd]
theorem fnD_nx {n : Nat} {b : Fs} {ds : List D} {st : Store} {ρ : Ev} {st' : Store} (h : b (startE n ds) st = .nx ρ st') : fnD n b ds st = tidy st (.ok .non st') := by
  unfold fnD runB
  rw [h]
end Gm
namespace Gm
open PySem PySem.Spec PyProof.Rows L2
theorem com_le {n d : Int} (hd : d ≠ 0) : (com n d).natAbs ≤ d.natAbs := by
  have h : Int.gcd n d ≤ d.natAbs := Nat.le_of_dvd (Int.natAbs_pos.mpr hd) (Nat.gcd_dvd_right ..)
  unfold com
  split
  · rw [Int.natAbs_neg]; exact h
  · exact h
theorem rat_neg (p : Rat) : Rat.divInt (-p.num) p.den = -p := by
  conv => rhs; rw [← Rat.num_divInt_den p]
  rw [Rat.neg_divInt]
theorem rat_sub (p q : Rat) : Rat.divInt (p.num * q.den - q.num * p.den) (p.den * q.den) = p - q := by
  have e : p - q = p + -q := Rat.sub_eq_add_neg p q
  rw [e, ← rat_add]
  congr 1
  · rw [Rat.neg_num, Rat.neg_den, Int.neg_mul, Int.sub_eq_add_neg]
theorem rat_int (n : Int) : Rat.divInt n 1 = (n : Rat) := by
  rw [show (1 : Int) = ((1 : Nat) : Int) from rfl, Rat.divInt_ofNat, Rat.mkRat_one]
theorem gcd_step (a b : Nat) (hb : b ≠ 0) : Nat.gcd b (a % b) = Nat.gcd a b := by
  rw [Nat.gcd_comm a b, Nat.gcd_rec b a, Nat.gcd_comm]
theorem fmod_nat (a b : Nat) : (a : Int).fmod (b : Int) = ((a % b : Nat) : Int) := by
  rw [Int.fmod_eq_emod_of_nonneg _ (Int.natCast_nonneg b)]
  exact (Int.natCast_emod a b).symm
theorem abs_if (i : Int) : (if i < 0 then -i else i) = (i.natAbs : Int) := by
  split <;> omega
end Gm
namespace Gm
open PySem PySem.Spec PyProof.Rows L2
theorem at_end (st : Store) (x : Cell) : (st ++ [x])[st.length]? = some x := by simp
theorem set_end (st : Store) (x y : Cell) : (st ++ [x]).set st.length y = st ++ [y] := by
  rw [List.set_append_right _ _ (Nat.le_refl _)]
  simp
theorem mkD_new {T : Ls} {c : Fn} {i f : Nat} {ds : List D} {st : Store} {fs : List (Nat × D)} (hm : T.meth i 37 = some f) (hc : callD T c f (.ref st.length :: ds) (st ++ [.ins i []]) = .ok .non (st ++ [.ins i fs])) (hl : fs.map (·.1) = T.lay i)
    (hr : noRefs st.length (fs.map (·.2)) = true) : mkD T c i ds st = .ok (.obj i (fs.map (·.2))) st := by
  unfold mkD
  simp only [hm]
  unfold makeR
  rw [hc]
  unfold made
  simp only [at_end]
  rw [if_pos ⟨trivial, hl⟩, set_end]
  exact tidy_same (by rw [noRef_obj]; exact hr)
theorem fnD_init {n : Nat} {b : Fs} {ds : List D} {st : Store} {i : Nat} {fs : List (Nat × D)} {ρ : Ev} (h : b (startE n ds) (st ++ [.ins i []]) = .nx ρ (st ++ [.ins i fs])) (hr : noRefs (st.length + 1) (fs.map (·.2)) = true) :
    fnD n b ds (st ++ [.ins i []]) = .ok .non (st ++ [.ins i fs]) := by
  rw [fnD_nx h, ← set_end st (.ins i []) (.ins i fs)]
  refine tidy_set0 ?_ (by simp)
  rw [List.length_append]
  exact hr
theorem fk_new {T : Ls} {i g : Nat} {fs : List (Nat × D)} (d : D) (ρ : Ev) (st : Store) (h : (T.isC i && (T.atn i).contains g && decide (fs.length < 1000) && (fs.map (·.1)).all fun g => (T.atn i).contains g) = true) :
    fldK T g d ρ (.ref st.length) (st ++ [.ins i fs]) = .nx ρ (st ++ [.ins i (putC g d fs)]) := by
  simp only [Bool.and_eq_true, decide_eq_true_eq, List.all_eq_true, List.contains_iff_mem] at h
  obtain ⟨⟨⟨h1, h2⟩, h3⟩, h4⟩ := h
  unfold fldK setD
  simp only [at_end]
  rw [if_pos ⟨h1, h2, h3, fun p hp => h4 _ (List.mem_map_of_mem hp)⟩, set_end]
theorem fld_obj {T : Ls} {c : Fn} {i g : Nat} {ds : List D} {d : D} (st : Store) (h : (T.isC i && (T.atn i).contains g) = true) (hd : lookF g ((T.lay i).zip ds) = some d) : fldD T c g (.obj i ds) st = .ok d st := by
  simp only [Bool.and_eq_true, List.contains_iff_mem] at h
  unfold fldD
  dsimp only
  rw [if_pos h, hd]
theorem bin_own {T : Ls} {c : Fn} {op : Operator} {i f : Nat} {ds es : List D} (st : Store) (hm : T.meth i (opn op) = some f) (ho : opn op ≠ 0) : binD T c op (.obj i ds) (.obj i es) st = callD T c f [.obj i ds, .obj i es] st := by
  unfold binD
  simp only [hm]
  rw [if_neg fun z => z.1 rfl]
  exact if_pos ⟨ho, .inl trivial⟩
theorem bin_oi {T : Ls} {c : Fn} {op : Operator} {i f : Nat} {ds : List D} {j : Int} (st : Store) (hm : T.meth i (opn op) = some f) (ho : opn op ≠ 0) : binD T c op (.obj i ds) (.int j) st = callD T c f [.obj i ds, .int j] st := by
  unfold binD
  simp only [hm]
  exact if_pos ho
theorem bin_io {T : Ls} {c : Fn} {op : Operator} {i f g : Nat} {ds : List D} {j : Int} (st : Store) (hm : T.meth i (opr op) = some f) (hn : T.meth i (opn op) = some g) (ho : intLeft op = true) : binD T c op (.int j) (.obj i ds) st = callD T c f [.obj i ds, .int j] st := by
  unfold binD
  simp only [hm]
  exact if_pos ⟨ho, by rw [hn]; rfl⟩
theorem neg_own {T : Ls} {c : Fn} {i f : Nat} {ds : List D} (st : Store) (hm : T.meth i 31 = some f) : negD T c (.obj i ds) st = callD T c f [.obj i ds] st := by
  unfold negD
  simp only [hm]
theorem eqB_own {T : Ls} {c : Fn} {neg : Bool} {i f : Nat} {ds : List D} {d2 : D} {b : Bool} (st : Store) (hm : T.meth i 21 = some f) (hr : rhs T d2 = true) (hc : callD T c f [.obj i ds, d2] st = .ok (.bl b) st) : eqB T c neg (.obj i ds) d2 st = .ok (.bl (b != neg)) st := by
  unfold eqB eqD
  simp only [hm, rhsL_of st hr, hc]
  rfl
@[simp] theorem inO_tup {T : Ls} {c : Fn} {neg : Bool} {d : D} {ds : List D} {st : Store} : inO T c neg d (.tup ds) st = inD neg d (.tup ds) st := rfl
@[simp] theorem inO_ref {T : Ls} {c : Fn} {neg : Bool} {d : D} {n : Nat} {st : Store} : inO T c neg d (.ref n) st = inD neg d (.ref n) st := rfl
end Gm
namespace Gm
open PySem PySem.Spec PyProof.Rows L2
theorem mid_set (B e : Store) (x y : Cell) : (B ++ x :: e).set B.length y = B ++ y :: e := by
  rw [List.set_append_right _ _ (Nat.le_refl _)]
  simp
theorem iSeq_tup {f : Fe} {ρ : Ev} {st : Store} {ds : List D} (h : f ρ st = .ok (.tup ds) st) : iSeq f ρ st = .ok (ds, fun _ => True) st := by
  unfold iSeq
  rw [h]
  rfl
theorem get_ext {st e : Store} {n : Nat} {x : Cell} (h : st[n]? = some x) : (st ++ e)[n]? = some x := by
  have hl : n < st.length := (List.getElem?_eq_some_iff.mp h).1
  rw [List.getElem?_append_left hl, h]
end Gm
namespace Gm
open PySem PySem.Spec PyProof.Rows L2
def kAp2 (o d : D) (st : Store) : Res D := appD o d st
def kAp1 (fd : Fe) (ρ : Ev) (o : D) (st : Store) : Res D := match o with
  | .ref n => match st[n]? with
    | some (.lst _) => (fd ρ st).bind (kAp2 o)
    | _ => .stuck
  | _ => .stuck
@[simp] theorem ap_xApp (fo fd : Fe) (ρ : Ev) (st : Store) : xApp fo fd ρ st = (fo ρ st).bind (kAp1 fd ρ) := rfl
theorem kAp1_ {fd : Fe} {ρ : Ev} {n : Nat} {st : Store} {l : List D} (h : st[n]? = some (.lst l)) : kAp1 fd ρ (.ref n) st = (fd ρ st).bind (kAp2 (.ref n)) := by
  unfold kAp1
  simp only [h]
theorem kAp2_ {d : D} {n : Nat} {st : Store} {l : List D} (h : st[n]? = some (.lst l)) (hl : l.length < 100) : kAp2 (.ref n) d st = .ok .non (st.set n (.lst (l ++ [d]))) := by
  unfold kAp2 appD
  simp only [h]
  exact if_pos (Nat.lt_of_lt_of_le hl (by decide))
theorem get_0 (st e : Store) (x : Cell) : (st ++ x :: e)[st.length]? = some x := by simp
theorem get_1 (st e : Store) (x y : Cell) : (st ++ x :: y :: e)[st.length + 1]? = some y := by simp
theorem get_2 (st e : Store) (x y z : Cell) : (st ++ x :: y :: z :: e)[st.length + 2]? = some z := by simp
theorem set_0 (st e : Store) (x c : Cell) : (st ++ x :: e).set st.length c = st ++ c :: e := mid_set st e x c
theorem set_1 (st e : Store) (x y c : Cell) : (st ++ x :: y :: e).set (st.length + 1) c = st ++ x :: c :: e := by
  rw [List.set_append_right _ _ (by omega)]
  simp
theorem set_2 (st e : Store) (x y z c : Cell) : (st ++ x :: y :: z :: e).set (st.length + 2) c = st ++ x :: y :: c :: e := by
  rw [List.set_append_right _ _ (by omega)]
  simp
@[simp] theorem k1_0 (fd : Fe) (ρ : Ev) (st e : Store) (l : List D) : kAp1 fd ρ (.ref st.length) (st ++ .lst l :: e) = (fd ρ (st ++ .lst l :: e)).bind (kAp2 (.ref st.length)) := kAp1_ (get_0 ..)
@[simp] theorem k1_1 (fd : Fe) (ρ : Ev) (st e : Store) (x : Cell) (l : List D) : kAp1 fd ρ (.ref (st.length + 1)) (st ++ x :: .lst l :: e) = (fd ρ (st ++ x :: .lst l :: e)).bind (kAp2 (.ref (st.length + 1))) := kAp1_ (get_1 ..)
@[simp] theorem k1_2 (fd : Fe) (ρ : Ev) (st e : Store) (x y : Cell) (l : List D) : kAp1 fd ρ (.ref (st.length + 2)) (st ++ x :: y :: .lst l :: e) = (fd ρ (st ++ x :: y :: .lst l :: e)).bind (kAp2 (.ref (st.length + 2))) := kAp1_ (get_2 ..)
@[simp] theorem k2_0 (d : D) (st e : Store) (l : List D) (h : l.length < 100) : kAp2 (.ref st.length) d (st ++ .lst l :: e) = .ok .non (st ++ .lst (l ++ [d]) :: e) := by
  rw [kAp2_ (get_0 ..) h, set_0]
@[simp] theorem k2_1 (d : D) (st e : Store) (x : Cell) (l : List D) (h : l.length < 100) : kAp2 (.ref (st.length + 1)) d (st ++ x :: .lst l :: e) = .ok .non (st ++ x :: .lst (l ++ [d]) :: e) := by
  rw [kAp2_ (get_1 ..) h, set_1]
@[simp] theorem k2_2 (d : D) (st e : Store) (x y : Cell) (l : List D) (h : l.length < 100) : kAp2 (.ref (st.length + 2)) d (st ++ x :: y :: .lst l :: e) = .ok .non (st ++ x :: y :: .lst (l ++ [d]) :: e) := by
  rw [kAp2_ (get_2 ..) h, set_2]
theorem subR {n : Nat} {st : Store} {l : List D} {i : Int} (h : st[n]? = some (.lst l)) : subD (.ref n) (.int i) st = optR (atI l i) st := by
  unfold subD
  simp only [h]
@[simp] theorem sb_0 (i : Int) (st e : Store) (l : List D) : subD (.ref st.length) (.int i) (st ++ .lst l :: e) = optR (atI l i) (st ++ .lst l :: e) := subR (get_0 ..)
@[simp] theorem sb_1 (i : Int) (st e : Store) (x : Cell) (l : List D) : subD (.ref (st.length + 1)) (.int i) (st ++ x :: .lst l :: e) = optR (atI l i) (st ++ x :: .lst l :: e) := subR (get_1 ..)
theorem tupR {n : Nat} {st : Store} {l : List D} (h : st[n]? = some (.lst l)) : bTuple [.ref n] st = .ok (.tup l) st := by
  unfold bTuple seqOf
  simp only [h]
@[simp] theorem tp_0 (st e : Store) (l : List D) : bTuple [.ref st.length] (st ++ .lst l :: e) = .ok (.tup l) (st ++ .lst l :: e) := tupR (get_0 ..)
@[simp] theorem tp_1 (st e : Store) (x : Cell) (l : List D) : bTuple [.ref (st.length + 1)] (st ++ x :: .lst l :: e) = .ok (.tup l) (st ++ x :: .lst l :: e) := tupR (get_1 ..)
@[simp] theorem tp_2 (st e : Store) (x y : Cell) (l : List D) : bTuple [.ref (st.length + 2)] (st ++ x :: y :: .lst l :: e) = .ok (.tup l) (st ++ x :: y :: .lst l :: e) := tupR (get_2 ..)
@[simp] theorem tp_tup (st : Store) (l : List D) : bTuple [.tup l] st = .ok (.tup l) st := rfl
@[simp] theorem nl_ (l : List D) (st : Store) : newLst l st = .ok (.ref st.length) (st ++ [.lst l]) := rfl
end Gm
namespace Gm
open PySem PySem.Spec PyProof.Rows L2
end Gm
namespace Gm
open PySem PySem.Spec PyProof.Rows L2
end Gm
namespace Gm
open PySem PySem.W
open PySem.Spec PyProof.Rows L2
end Gm
namespace Gm
open PySem PySem.Spec PyProof.Rows L2
end Gm
namespace Gm
open PySem PySem.Spec PyProof.Rows L2
open PySem.W (ksFn kxs_mw)
section
variable {X : Cx} {pins : List (Addr × Obj)} {σ : St} {H : Hp} {s : Shared} {a C u : Addr} {A : Around}
theorem mw_call {rest : List Value} {Q : Value → Shared → Prop} {E : Value → Shared → Prop} (T : OexC X.K C) (I : Inv X pins σ H s) (e : H a = some (exo a C none)) (hu : s.heap.get? u = some (kxs_mw "ValueError.__init__" a)) (hl : rest.length ≤ sizeLine)
    (h : ∀ s', Inv X pins σ H s' → Q .none s') : wpAny (model X.prog X.w) A (call (.ref u) rest) Q E s := by
  obtain ⟨nm, q, N, bs, bm, sn, sub, ab, col, dd, k0, k1, k2, k3, k5, hC, hbm⟩ := T.cls
  obtain ⟨t1, ho⟩ := exo_at I.hok e
  have hC' := I.kIn _ _ hC
  have FB := F.excBase_ValueError
  have eu : upd H a (exo a C none) = H := by
    funext b
    by_cases hb : b = a
    · rw [hb, upd_same, e]
    · rw [upd_ne hb]
  have fin : ∀ h', (∀ b o, b ≠ a → s.heap.get? b = some o → h'.get? b = some o) → h'.get? a = some (PySem.W.excObj C s.heap.objs.size none .none) → h'.get? s.heap.objs.size = some (PySem.W.excTup rest) → Q .none { s with heap := h' } := fun h' k hx _ => by
    have J := I.write (t' := s.toks) (x := a) (e := a) (o := exo a C none) (by rw [e]; exact True.intro) (.inl rfl) k ⟨_, hx⟩ (exo_ok hx)
    rw [eu] at J
    exact h _ J
  obtain ⟨hh, g, d, tk, os⟩ := s
  refine wpAny_call (codeAny_of_tree ?_)
  show wpAny _ A.in1 (callAny (.ref u) ⟨rest, []⟩) _ _ _
  simp only [callAny]
  refine wpAny_bind (wpAny_load hu ?_)
  simp only [kxs_mw, show (Value.type "method-wrapper" == Value.type "method" || Value.type "method-wrapper" == Value.type "builtin_function_or_method" || Value.type "method-wrapper" == Value.type "method-wrapper") = true by decide, if_true]
  refine PySem.W.KFB.if_so (by decide) ?_
  refine wpAny_bind (PySem.W.check_bound_init FB.toExcCallFacts hC' ho rfl ?_)
  refine wpAny_bind (wpAny_pure (wpAny_pure ?_))
  refine ⟨plainId_quiet FB.init.plain _, codeAny_builtin FB.initEntry ?_⟩
  exact PySem.W.exc_init_tree (cls := .ref C) (t0 := t1) (dv := none) (c2 := .none) (c3 := .none) (b4 := .bool false) ho hl fin
end

open NdefX in
theorem cells_cls {cc D : Addr} {H : Hp} {h : Heap} {o : Obj} (hc : h.get? cc = some o) (hd : o.data = .cell (some (.ref D))) (hn : H cc = none) : CellsAt [("__class__", cc)] ["__class__"] [none] h H := by
  have lk : ∀ (y : Str) (c : Addr), List.lookup y [(("__class__" : Str), cc)] = some c → y = "__class__" ∧ c = cc := fun y c e => by
    simp only [List.lookup] at e
    split at e
    · rename_i q
      exact ⟨by simpa using q, (Option.some.inj e).symm⟩
    · cases e
  refine ⟨rfl, fun y c e => ?_, fun x y c e1 e2 => ?_, fun i y e => ?_⟩
  · obtain ⟨_, rfl⟩ := lk y c e
    exact ⟨hn, _, o, hc, hd⟩
  · rw [(lk x c e1).1, (lk y c e2).1]
  · cases i with
    | zero =>
      have e' : y = "__class__" := by simpa using e.symm
      subst e'
      exact ⟨cc, by simp [List.lookup], fun v q => by simp at q⟩
    | succ i => simp at e
theorem sup_step {X : Cx} {σ : St} {H : Hp} {s : Shared} {a cc cda D f : Addr} {oc : Value} {od : Option Addr} {fd : FuncData} {osl : Array (Option Value)} {ar : Arg} {p0 p1 pa pc pe : Pos} {e : Expr} {es : List Expr} {ta : TA} {body : List Stmt} {pl : Sem Bool} {Q : Flow → Shared → Prop}
    (Z : SupC X.prog X.K X.mg D cc cda) (I : Inv X [] σ H s) (hcells : X.env.cells.lookup ("__class__" : Str) = some cc) (hcode : X.env.code = .ref cda) (hfunc : X.env.func = some f) (lk : X.K.lookup f = some ⟨oc, od, .func fd, osl⟩)
    (hp : (fd.params.posonlyargs ++ fd.params.args).head? = some ar) (hp0 : X.N[0]? = some ar.arg) (hka : X.env.kindOf ar.arg = some .local) (hks : X.env.kindOf "super" = some .globalImplicit) (hkc : X.env.kindOf "__class__" = some .free)
    (hσ : σ[0]? = some (some (.ref a))) (hH : H a = some (exo a D none)) (ha : PA X (e :: es) ta) (hta : ta σ H (fun us H1 => us.length ≤ 1000 ∧ H1 = H))
    (hst : starEach (e :: es) X.env = (false, eval e X.env) :: starEach es X.env) (hpl : (backTo pc (starEach es X.env)).any (·.1) = false)
    (hi : interactive X.env = false) (hs : swapsWith (.Call (.Attribute (.Call (.Name "super" p0) [] [] p1) "__init__" pa) (e :: es) [] pc) none pe.line X.env = pure false)
    (he : eval (.Call (.Attribute (.Call (.Name "super" p0) [] [] p1) "__init__" pa) (e :: es) [] pc) X.env = (do
      let ov ← attributeBase (.Call (.Name "super" p0) [] [] p1) "__init__" X.env (eval (.Call (.Name "super" p0) [] [] p1) X.env)
      standAt pa.atName
      let (f, first) ← holding [ov] (getMethod ov "__init__" pl)
      callWith pc f first (backTo pc (starEach (e :: es) X.env)) []))
    (hq : ∀ s', Inv X [] σ H s' → Q .next s') :
    PySem.wpAt (model X.prog X.w) X.A (.func body X.env) (exec (.Expr (.Call (.Attribute (.Call (.Name "super" p0) [] [] p1) "__init__" pa) (e :: es) [] pc) pe) X.env) Q X.xe s := by
  obtain ⟨ccl, cdd, vs, ccs, file, tf, hc1, hc2, hc3⟩ := Z.code
  obtain ⟨cl, cld, csl, hcell⟩ := Z.cell
  obtain ⟨cd, hD⟩ := Z.cd
  have KX := I.kIn
  obtain ⟨oD, hD1, hD2⟩ : ∃ oD, s.heap.get? D = some oD ∧ oD.data = .cls cd := by
    unfold PySem.W.clsIn at hD
    split at hD
    · rename_i c d cd' sl ho
      cases hD
      exact ⟨_, KX _ _ ho, rfl⟩
    · cases hD
  obtain ⟨t1, ho⟩ := exo_at I.hok hH
  obtain ⟨m, hn, hl⟩ := I.loc
  obtain ⟨u, ru, lu⟩ := hl 0 ar.arg (.ref a) hp0 hσ (.inl hka)
  obtain rfl : u = Value.ref a := ru
  have hm : m ar.arg = some (.ref a) := by
    rcases lu with ⟨_, h⟩ | ⟨h, _⟩
    · exact h
    · rcases h with h | h <;> · rw [hka] at h; cases h
  obtain ⟨mb, hb1, hb2⟩ := I.mod.blt
  refine ks_wpAt_Expr_any (ks_wpAt_MethodCall (pl := pl) (h := ?_) (he := he)) hi hs
  refine ks_wpAt_super_base hks hkc rfl hfunc (KX _ _ lk) rfl hp hcode (KX _ _ hc1) rfl hc2 hc3 Z.top ?_
  refine PySem.W.ks_loadName_global I.ok.kind hks (Calls.loadGlobal_builtin (by rw [I.ok.glob]; exact I.mod.glob.keeps I.bk) Z.sup (by rw [I.ok.blt]; exact hb1.keeps I.bk) ((hb2 "super" (by decide)).trans (by first | rfl | kernel_rfl)) ⟨rfl, ?_⟩)
  refine wpAny_loadName_free I.ok.kind hkc hcells ⟨_, KX _ _ hcell, rfl⟩ ?_
  refine wpAny_loadName_local I.ok.kind hka hn hm ?_
  refine ks_wpAny_isType_cls hD1 hD2 ⟨rfl, ?_⟩
  obtain ⟨hh, g, d, tk, os⟩ := s
  refine ks_wpAny_call_super (D := D) (x := a) (C := D) hD1 hD2 ho rfl (fun c e => by cases e) (PySem.W.looks_mroIn KX Z.sub) (fun h' hso k => ?_)
  have I1 : Inv X [] σ H ⟨h', g, d, tk, os⟩ := I.kept (t' := tk) k
  have KX1 := I1.kIn
  have ho1 := k _ _ ho
  have I2 : PySem.W.InstAt h' a ({ cls := .ref D, dict := none, data := .fields #[.ref t1, .none, .none, .none, .bool false, .none] } : Obj) D none := ⟨ho1, rfl, rfl, trivial⟩
  have hmt := Z.mt
  unfold PySem.W.ks_superIn at hmt
  rw [hD] at hmt
  refine PySem.W.kxs_getMethod PySem.W.kxs_ValueError (so := hh.objs.size) (D := D) (x := a) (C := D) hso (PySem.W.looks_opaque KX1 Z.op) (l₀ := cd.mro) (fun A Q E s k q => wpAny_bind ((PySem.W.looks_clsIn KX1 hD) A _ E s k (wpAny_pure q))) rfl KX1 hmt (I2.type.andThen (PySem.W.looks_subIn KX1 Z.ve)) (PySem.W.ks_ne KX1 I2 hD) rfl ?_
  have hu : (h'.push (kxs_mw "ValueError.__init__" a)).get? h'.objs.size = some (kxs_mw "ValueError.__init__" a) := Heap.get?_push_at rfl rfl
  have I3 : Inv X [] σ H ⟨h'.push (kxs_mw "ValueError.__init__" a), g, d, tk + 1, os⟩ := I1.kept (t' := tk + 1) fun b o e => Heap.get?_push_of_some _ e
  have nU : H h'.objs.size = none := I1.hok.fresh (Nat.le_refl _)
  have fp : ∀ b ∈ [h'.objs.size], FpOk X [] H b := fun b hb => by
    have : b = h'.objs.size := by simpa using hb
    subst this
    exact I1.fpOk (Nat.le_refl _) nU
  have I4 := I3.pinned fp (fun b hb => by
    have : b = h'.objs.size := by simpa using hb
    subst this
    exact ⟨_, hu, fun v z => by cases z⟩)
  show wpAny _ _ (callWith pc (.ref h'.objs.size) [] (backTo pc (starEach (e :: es) X.env)) []) _ _ _
  have run := thn (ha.run pc _ _ σ H _ I4 hta) fun us s5 ⟨vs', H5, I5, r5, q5⟩ =>
    (show PySem.W.KxsAt "ValueError.__init__" h'.objs.size a s5.heap ∧ wpAny (model X.prog X.w) X.A (call (.ref h'.objs.size) us) (fun v s' => Q .next s') X.xe s5 from by
      obtain ⟨q6, rfl⟩ := q5
      have hu5 : s5.heap.get? h'.objs.size = some (kxs_mw "ValueError.__init__" a) := (I5.pin (h'.objs.size, kxs_mw "ValueError.__init__" a) (List.mem_append_right _ (List.mem_append_right _ (mem_pinsAt (List.mem_singleton.mpr rfl) hu)))).1
      exact ⟨hu5, mw_call Z.T I5.unpinned hH hu5 (by rw [← r5.length, sizeLine_eq]; omega) fun s' I' => hq s' I'⟩)
  rw [hst] at run ⊢
  refine PySem.W.kxs_callWith (i := "ValueError.__init__") (x := a) (by show (false || (backTo pc (starEach es X.env)).any (·.1)) = false; rw [hpl]; rfl) ?_
  exact PySem.Calls.evalArgs_plain run
open NdefX in
theorem sup_fn {P : Program} {w : World} {K : PySem.W.Frag} {mg : Str → Option Value} {base : Heap} {CX : CXT} {k : Nat} {name qual : Str} {params : Arguments} {rest : List Stmt} {scope : Scope} {dV kV doc pm ct oc : Value} {an od : Option Addr}
    {osl : Array (Option Value)} {N ps : List Str} {sp : Sp} {f cc cda D : Addr} {ar : Arg} {p0 p1 pa pc pe : Pos} {e : Expr} {es : List Expr}
    (lk : K.lookup f = some ⟨oc, od, .func (ksFn name qual params (.Expr (.Call (.Attribute (.Call (.Name "super" p0) [] [] p1) "__init__" pa) (e :: es) [] pc) pe :: rest) scope dV kV doc pm an (.ref cda) ct cc), osl⟩)
    (hcd : PySem.W.codeIn K (.ref cda) qual = true) (S : NScope N ps ["__class__"] scope) (Z : SupC P K mg D cc cda)
    (hp : (params.posonlyargs ++ params.args).head? = some ar) (hp0 : N[0]? = some ar.arg) (hka : scope.names.lookup ar.arg = some .local) (hks : scope.names.lookup ("super" : Str) = some .globalImplicit)
    (len : ∀ vs H Q E, sp vs H Q E → vs.length = ps.length)
    (hst : ∀ env : Env, starEach (e :: es) env = (false, eval e env) :: starEach es env) (hpl : ∀ env : Env, (backTo pc (starEach es env)).any (·.1) = false)
    (hsw : ∀ env : Env, swapsWith (.Call (.Attribute (.Call (.Name "super" p0) [] [] p1) "__init__" pa) (e :: es) [] pc) none pe.line env = pure false) {pl : Env → Sem Bool}
    (he : ∀ env : Env, eval (.Call (.Attribute (.Call (.Name "super" p0) [] [] p1) "__init__" pa) (e :: es) [] pc) env = (do
      let ov ← attributeBase (.Call (.Name "super" p0) [] [] p1) "__init__" env (eval (.Call (.Name "super" p0) [] [] p1) env)
      standAt pa.atName
      let (f, first) ← holding [ov] (getMethod ov "__init__" (pl env))
      callWith pc f first (backTo pc (starEach (e :: es) env)) []))
    (hrest : ∀ (A : Around) (outer : List Env) (s : Shared) (H : Hp) (vs : List V) (Q : VK) (E : XK), sp vs H Q E →
      ∃ (a : Addr) (t : TS) (ta : TA), vs[0]? = some (.ref a) ∧ H a = some (exo a D none) ∧
        PA (ncx CX P w K mg base N ⟨name, qual, params, .Expr (.Call (.Attribute (.Call (.Name "super" p0) [] [] p1) "__init__" pa) (e :: es) [] pc) pe :: rest, scope, [("__class__", cc)], cda⟩ f A outer s H E) (e :: es) ta ∧
        ta (startF N vs [none]) H (fun us H1 => us.length ≤ 1000 ∧ H1 = H) ∧
        PSs (ncx CX P w K mg base N ⟨name, qual, params, .Expr (.Call (.Attribute (.Call (.Name "super" p0) [] [] p1) "__init__" pa) (e :: es) [] pc) pe :: rest, scope, [("__class__", cc)], cda⟩ f A outer s H E) rest t ∧
        t { nx := fun _ H' => Q .non H', rt := Q } (startF N vs [none]) H) :
    FnOk P w K mg base CX (k + 1) f (ksFn name qual params (.Expr (.Call (.Attribute (.Call (.Name "super" p0) [] [] p1) "__init__" pa) (e :: es) [] pc) pe :: rest) scope dV kV doc pm an (.ref cda) ct cc) ps sp := by
  refine ⟨len, fun A outer s H args us vs Q E hr e0 hb r hsp => ?_⟩
  have hl := len _ _ _ _ hsp
  have KX : K.In s.heap := e0.mod.kin.keeps fun b o e => (e0.bs b o e).1
  have lim : s.heap.NoLimit := e0.mod.nolimit.keeps fun b o e => (e0.bs b o e).1
  obtain ⟨a, t, ta, e1, e2, ha, hta, ht, hq⟩ := hrest A outer s H vs Q E hsp
  obtain ⟨cl, cld, csl, hcell⟩ := Z.cell
  have hcb := e0.bs cc _ (e0.mod.kin _ _ hcell)
  have CA : CellsAt [("__class__", cc)] ["__class__"] [none] s.heap H := cells_cls hcb.1 rfl hcb.2
  refine ks_codeAny_call_defAt (fd := ksFn name qual params (.Expr (.Call (.Attribute (.Call (.Name "super" p0) [] [] p1) "__init__" pa) (e :: es) [] pc) pe :: rest) scope dV kV doc pm an (.ref cda) ct cc) (binds := ps.zip us) hr.depth (KX _ _ lk) rfl lim
    (PySem.W.codeRec_of KX hcd) rfl hb S.nocell (fun ⟨n, _⟩ hy => S.par n (List.of_mem_zip hy).1) (fun h₁ hns hk₁ => ?_) S.co S.gen S.kind
  have I := inv_startN (CX := CX) (E := E) (F := ⟨name, qual, params, .Expr (.Call (.Attribute (.Call (.Name "super" p0) [] [] p1) "__init__" pa) (e :: es) [] pc) pe :: rest, scope, [("__class__", cc)], cda⟩) (f := f) (tk := s.toks + (ps.zip us).length) S hr.hd e0 hl r CA hns hk₁
  refine ks_wpAt_execs_cons (sup_step (X := ncx CX P w K mg base N ⟨name, qual, params, .Expr (.Call (.Attribute (.Call (.Name "super" p0) [] [] p1) "__init__" pa) (e :: es) [] pc) pe :: rest, scope, [("__class__", cc)], cda⟩ f A outer s H E) (pl := pl _) Z I (show List.lookup ("__class__" : Str) [(("__class__" : Str), cc)] = some cc from by simp [List.lookup]) rfl rfl lk hp hp0 hka hks (S.frk "__class__" List.mem_cons_self) ?_ e2 ha hta (hst _) (hpl _) (by unfold interactive; simp [ncx, S.kind]) (hsw _) (he _) fun s' I' => ?_)
  · have : vs ≠ [] := fun z => by rw [z] at e1; simp at e1
    unfold startF
    rw [List.getElem?_append_left (by rw [List.length_map]; exact List.length_pos_iff.mpr this), List.getElem?_map, e1]
    rfl
  · refine wpAt_of_wpAny (wpAny_mono (ht.run [] s' _ H _ I' hq) (fun fl s' hs => ?_) fun e s' hs => hs)
    have fin : ∀ {σ' : L2.St} {H' : Hp} {v : V} {u : Value}, Inv (ncx CX P w K mg base N ⟨name, qual, params, .Expr (.Call (.Attribute (.Call (.Name "super" p0) [] [] p1) "__init__" pa) (e :: es) [] pc) pe :: rest, scope, [("__class__", cc)], cda⟩ f A outer s H E) [] σ' H' s' → L2.RelV v u → Q v H' → CE outer P w H s Q u s' :=
      fun {σ' H' v u} J rv q => ⟨v, H', J.os, J.bare, J.base, J.hok, rv, q⟩
    cases fl with
    | ret u =>
      obtain ⟨v, σ', H', J, rv, q⟩ := hs
      exact fin J rv q
    | next =>
      obtain ⟨σ', H', J, q⟩ := hs
      exact fin (v := V.non) (u := Value.none) J rfl q
    | brk =>
      obtain ⟨_, _, _, q⟩ := hs
      exact False.elim q
    | cont =>
      obtain ⟨_, _, _, q⟩ := hs
      exact False.elim q
end Gm
namespace Gm
open PySem PySem.Spec PyProof.Rows L2
noncomputable def sRaise (i : Nat) (f : Fa) : Fs := fun ρ st => (f ρ st).toS ρ fun ds st => .err ⟨i, ds.reverse⟩ ρ st
section
variable {L : Lw} {X : Cx} {Wx : WX} {k : Nat} {c : Fn} {x : Str} {e : Expr} {es : List Expr} {p pos pos2 : Pos}
theorem rs_raise1 (G : Gd L X Wx k c) {i g : Nat} {fI : Addr} {fd : FuncData} {ps : List Str} {f : Fe} (Z : Xc1 X.prog X.w X.K X.mg X.base (k + 5) L i x g fI fd ps) (hg : Gl X x) (he : RE L X Wx e f)
    (hdb : (x == ("__debug__" : Str)) = false := by decide) (hst : starEach [e] X.env = (false, eval e X.env) :: starEach [] X.env := by rfl) (hpl : (backTo pos (starEach [] X.env)).any (·.1) = false := by rfl) :
    RS L X Wx (.Raise (some (.Call (.Name x p) [e] [] pos)) none pos2) (sRaise i (aCons f aNil)) := by
  refine ⟨fun pins s σ H W sto ρ D I S E o => ?_⟩
  have ra := ra_cons he (ra_nil (L := L) (X := X) (Wx := Wx)) hst
  have mk := pmk_oex (X := X) (p := p) (pos := pos) (dvs := []) Z.T Z.iC Z.tI Z.fn (G.room.mono (by omega)) Z.bi .nil C8.pass0 hg Z.m ra.pa hdb hst hpl
  refine (ps_raise (pos := pos2) G.calm G.tk mk).run pins s σ H D I ?_
  refine ⟨W, sto, ρ, S, E, ?_⟩
  have hl := ra.len ρ sto
  revert o hl
  unfold sRaise
  cases hf : aCons f aNil ρ sto with
  | ok ds st1 =>
    intro o hl W1 H1 e1 S1 vs R1
    have e2 := hl ds st1 rfl
    have e3 : vs.length = 1 := by rw [← R1.length]; exact e2
    obtain ⟨y, rfl⟩ := List.length_eq_one_iff.mp e3
    obtain ⟨d, rfl⟩ := List.length_eq_one_iff.mp (show ds.length = 1 from e2)
    refine ⟨by simp, fun a ha => ⟨a, y, by simp, upd_same, fun dx h1 h2 => ⟨rfl, dx, [(L.nm g, y)], upd_same, ?_, ?_, ?_⟩⟩⟩
    · rw [upd_ne h2, upd_same]
    · rw [upd_ne h2] at h1; exact h1
    · have hd1 : H1 dx = none := by rw [upd_ne h2] at h1; exact h1
      have eH : upd (del (upd (upd (upd H1 a (exo a (L.cad i) none)) dx (exd dx [(L.nm g, y)])) a (exo a (L.cad i) (some dx))) a) dx (.xd [(L.nm g, y)]) = upd H1 dx (.xd [(L.nm g, y)]) := by
        funext b
        by_cases hb : b = dx
        · rw [hb, upd_same, upd_same]
        · rw [upd_ne hb, upd_ne hb]
          by_cases hba : b = a
          · rw [hba, del_same, ha]
          · rw [del_ne hba, upd_ne hba, upd_ne hb, upd_ne hba]
      rw [eH]
      obtain ⟨l1, S2⟩ := S1.alloc_fz (o := .xd [(L.nm g, y)]) hd1
      refine o _ _ σ _ _ (e1.trans l1) S2 (E.mono (e1.trans l1)) ⟨rfl, .inr ⟨dx, [y], rfl, ?_, ?_, ?_⟩⟩
      · rw [Z.lay]
        show (W1.freeze dx _).fz dx = _
        simp [Wd.freeze, upd_same]
      · rw [Z.lay]; rfl
      · exact R1.mono l1
  | err x st1 =>
    intro o hl W1 H1 cls dx e1 S1 R1
    exact o W1 H1 σ cls dx e1 S1 (E.mono e1) R1
  | stuck => intro o; exact o.elim
end
end Gm
namespace PySem.W
open PySem PySem.Spec PySem.Calls PyProof.Rows
section
variable {prog : Program} {w : World} {A : Around} {E : Value → Shared → Prop} {s : Shared} {K : Frag} {x D : Addr} {ox : Obj} {od : Option Obj}
end
end PySem.W
namespace Gm
open PySem PySem.Spec PyProof.Rows L2
end Gm
namespace Gm
open PySem PySem.Spec PyProof.Rows L2
def unset (D : Ends) (i : Nat) : Ends := { nx := fun σ' H' => D.nx (σ'.set i none) H', rt := D.rt, bk := fun σ' H' => D.bk (σ'.set i none) H', ct := fun σ' H' => D.ct (σ'.set i none) H' }
def wMix (K : PySem.W.Frag) (Wout : WX) (D : Ends) : List Clause → WX
  | [] => Wout
  | (c, oi, ts) :: r => fun cls d σ H => ∃ b, PySem.W.exmOne K cls c = some b ∧ (b = true → ∀ a, H a = none → match oi with
      | none => ts a cls d D σ H
      | some i => ts a cls d (unset D i) (σ.set i (some (.ref a))) H) ∧ (b = false → wMix K Wout D r cls d σ H)
section
variable {X : Cx} {body : List Stmt} {h₀ : ExceptHandler} {hds : List ExceptHandler} {l : List Clause} {pos : Pos} {tb : WX → TS} {Wout : WX}
theorem ps_try_mix (hs : X.stack = X.env :: X.outer) (hf : X.env.frame = some X.env.locals) (hN : X.N.Nodup) (tk : Takes X Wout)
    (hb : ∀ (W : WX) (pn : List (Addr × Obj)) (xe : Value → Shared → Prop), Takes (X.tr pn xe) W → PassesOwn (model X.prog X.w) X.A X.env xe → PSs (X.tr pn xe) body (tb W))
    (hh : HdsMix X (h₀ :: hds) l) : PS X (.Try body (h₀ :: hds) [] [] pos) (fun D σ H => tb (wMix X.K Wout D l) D σ H) := by
  refine ⟨fun pins s σ H D I h => ?_⟩
  have ok := I.ok
  have hfr : X.A.frames = some (X.env :: X.outer) := by rw [ok.frames, hs]
  refine wpAny_Try_except ?_
  refine wpAny_mono ((hb (wMix X.K Wout D l) (X.pn ++ pins) (fun e s₁ => wpAny (model X.prog X.w) X.A (noteFrame e X.env) (fun _ s₂ => wpAny (model X.prog X.w) X.A (setFlight e none) (fun _ s₃ =>
    wpAny (model X.prog X.w) X.A (handleBy e X.env (h₀ :: hds)) (SP X pins D) X.xe s₃) X.xe s₂) X.xe s₁) (fun u s' xx => ?_) PassesOwn.looking).run [] s σ H D (I.toTry _) h) (fun f s1 hsp => ?_) (fun e s1 he => he)
  · obtain ⟨a, B, sI, pins', σ', H', cls, d, rfl, J', nb, up, sky, na, os, ag, w⟩ := xx
    have J : Inv X pins σ' H' sI := J'.ofTry ok
    have sky' : Sky B (X.env :: X.outer) a (Zc cls d) X.env.locals s'.heap := by rw [← hs]; exact sky
    show wpAny (model X.prog X.w) X.A (noteFrame (.ref a) X.env) _ _ _
    refine Sky.land Zc.steady hfr hf sky' fun h3 fl3 up3 => ?_
    have J3 : Inv X pins σ' H' { s' with heap := h3 } := J.landed nb fl3.1 (up.trans up3) os ag
    obtain ⟨oe3, vs3, he3, hz3, hd3⟩ := fl3.there
    have nfr : a ∉ frs (X.env :: X.outer) := fun hm => by
      obtain ⟨_, o', e', hnf⟩ := fl3.2.2.1.mem hm
      rw [he3] at e'; cases e'
      exact hnf _ hd3
    have nL : a ≠ X.env.locals := fun z => nfr (List.mem_filterMap.mpr ⟨X.env, List.mem_cons_self, by rw [hf, z]⟩)
    have nF : a ∉ X.fs := fun hm => by
      obtain ⟨e, he, q⟩ := List.mem_filterMap.mp hm
      exact nfr (List.mem_filterMap.mpr ⟨e, List.mem_cons_of_mem _ he, q⟩)
    have S3 := J3.suite he3 hd3 na nL nF
    have LT : PySem.W.Looks (model X.prog X.w) h3 (typeOf (.ref a)) cls := fun A Q E s k q => wpAny_typeOf_ref (k _ _ he3) (by rw [hz3.1]; exact q)
    have test : ∀ {x : Str} {c : Value} {np : Pos}, Names X x c → ∀ {Q : Value → Shared → Prop} {E : Value → Shared → Prop}, Q c { s' with heap := h3 } → wpAny (model X.prog X.w) (X.A.mark (some (.ref a))) (eval (.Name x np) X.env) Q E { s' with heap := h3 } := fun {x c np} hc {Q E} q => by
      obtain ⟨hg, hdbg, hm | ⟨hm, hv, hnn⟩⟩ := hc
      · exact ld_glob (X := X.suite a ((a, oe3) :: (X.pn ++ pins))) S3 hg hm q hdbg
      · exact ld_blt (X := X.suite a ((a, oe3) :: (X.pn ++ pins))) S3 hg hm hv q hnn hdbg
    have go : ∀ {hds' : List ExceptHandler} {l' : List Clause}, HdsMix X hds' l' → wMix X.K Wout D l' cls d σ' H' →
        wpAny (model X.prog X.w) X.A (handleBy (.ref a) X.env hds') (SP X pins D) X.xe { s' with heap := h3 } := by
      intro hds' l' hk
      induction hk with
      | nil =>
        intro w
        refine wpAny_handleBy_nil ?_
        obtain ⟨k1, k2, k3, oe, vs, T, oT, ts', he, hz, hd, h1, hr⟩ := id fl3
        unfold PySem.passOn
        refine wpAny_bind (wpAny_field he hd h1 ?_)
        rw [if_neg (show ¬ ((Value.ref T == Value.none) = true) from by simp)]
        have fin : wpAny (model X.prog X.w) X.A (setFlight (.ref a) X.env.frame) (fun _ s4 => wpAny (model X.prog X.w) X.A (throw (.ref a) : Sem Flow) (SP X pins D) X.xe s4) X.xe { s' with heap := h3 } := by
          rw [hf]
          refine HandSPX.setFlight_upZ fl3 fun h4 hh4 up4 => wpAny_throw (tk _ _ ?_)
          exact ⟨a, B, sI, pins, σ', H', cls, d, rfl, J, nb, (up.trans up3).trans up4, .inr (.inr (by rw [hs]; exact hh4)), na, os, ag, w⟩
        first
          | exact wpAny_bind (wpAny_pure (wpAny_bind fin))
          | exact wpAny_bind fin
      | @plain x c ts b₀ suite np pos' hds2 l2 hc hsu r ih =>
        intro w
        obtain ⟨b, hb1, hyes, hno⟩ := w
        refine wpAny_handleBy_cons (codeAny_handlers_test ?_) (by intro q; cases q)
        have LM := PySem.W.exm_one (M := model X.prog X.w) (J3.kIn) LT hb1
        refine test hc (LM.here ?_)
        cases b with
        | true =>
          refine codeAny_handlers_suite ?_
          refine HandSPX.lands_againZ fl3 fun h4 fl4 up4 => ?_
          have J4 : Inv X pins σ' H' { s' with heap := h4 } := J.landed nb fl4.1 ((up.trans up3).trans up4) os ag
          obtain ⟨oe4, vs4, he4, hz4, hd4⟩ := fl4.there
          have S4 := J4.suite he4 hd4 na nL nF
          refine wpAny_mono ((hsu a oe4 cls d (X.pn ++ pins) hz4 ⟨_, hd4⟩).run [] _ _ H' _ S4 (hyes rfl a na)) (fun f s6 hsp => ?_) (fun _ _ z => False.elim z)
          cases f with
          | ret u =>
            obtain ⟨v6, σ6, H6, S6, r6, q6⟩ := hsp
            exact ⟨_, _, _, S6.unsuite ok, r6, q6⟩
          | _ =>
            obtain ⟨σ6, H6, S6, q6⟩ := hsp
            exact ⟨_, _, S6.unsuite ok, q6⟩
        | false =>
          show wpAny _ X.A (handleBy (.ref a) X.env hds2) _ _ _
          exact ih (hno rfl)
      | @named x n i c ts b₀ suite np pos' hds2 l2 hc hi hln hsu r ih =>
        intro w
        obtain ⟨b, hb1, hyes, hno⟩ := w
        refine wpAny_handleBy_cons (codeAny_handlers_test ?_) (by intro q; cases q)
        have LM := PySem.W.exm_one (M := model X.prog X.w) (J3.kIn) LT hb1
        refine test hc (LM.here ?_)
        cases b with
        | true =>
          refine codeAny_handlers_suite_as ?_
          refine HandSPX.lands_againZ fl3 fun h4 fl4 up4 => ?_
          have J4 : Inv X pins σ' H' { s' with heap := h4 } := J.landed nb fl4.1 ((up.trans up3).trans up4) os ag
          obtain ⟨oe4, vs4, he4, hz4, hd4⟩ := fl4.there
          have S4 := J4.suite he4 hd4 na nL nF
          refine store_ok (X := X.suite a ((a, oe4) :: (X.pn ++ pins))) (v := .ref a) S4 hN hi (.inl hln) rfl (fun s5 S5 => ?_) (.inr hln)
          refine wpAny_mono ((hsu a oe4 cls d (X.pn ++ pins) hz4 ⟨_, hd4⟩).run [] s5 _ H' _ S5 (hyes rfl a na)) (fun f s6 hsp => ?_) (fun _ _ z => False.elim z)
          have end_ : ∀ {σ6 : St} {H6 : Hp} {Q : Shared → Prop}, Inv (X.suite a ((a, oe4) :: (X.pn ++ pins))) [] σ6 H6 s6 → (∀ s7, Inv X pins (σ6.set i none) H6 s7 → Q s7) →
              wpAny (model X.prog X.w) X.A (do bindName X.env n .none; unbindBehindTheSuite X.env n pos') (fun _ s7 => Q s7) X.xe s6 := fun {σ6 H6 Q} S6 hq => gone_ok (S6.unsuite ok) hN hi hln hq
          cases f with
          | ret u =>
            obtain ⟨v6, σ6, H6, S6, r6, q6⟩ := hsp
            exact end_ S6 fun s7 J7 => ⟨_, _, _, J7, r6, q6⟩
          | _ =>
            obtain ⟨σ6, H6, S6, q6⟩ := hsp
            exact end_ S6 fun s7 J7 => ⟨_, _, J7, q6⟩
        | false =>
          show wpAny _ X.A (handleBy (.ref a) X.env hds2) _ _ _
          exact ih (hno rfl)
    exact go hh w
  · cases f with
    | next =>
      obtain ⟨σ', H', J', q⟩ := hsp
      exact wpAny_execs_nil ⟨σ', H', J'.ofTry ok, q⟩
    | ret u =>
      obtain ⟨v, σ', H', J', r, q⟩ := hsp
      exact ⟨v, σ', H', J'.ofTry ok, r, q⟩
    | _ =>
      obtain ⟨σ', H', J', q⟩ := hsp
      exact ⟨σ', H', J'.ofTry ok, q⟩
end
end Gm
namespace Gm
open PySem PySem.Spec PyProof.Rows L2
section
variable (L : Lw) (K : PySem.W.Frag) (a : Addr) (cls : Value) (d : Option Addr) (oi : Option Nat)
end
section
variable {L : Lw} {X : Cx} {oi : Option Nat} {e : Expr} {es : List Expr} {pos p p1 p2 p3 : Pos}
theorem sx_k {dv : D} {v : V} (h : ∀ (a : Addr) (oe : Obj) (pn : List (Addr × Obj)), PE (X.suite a ((a, oe) :: pn)) e (tC v)) (r : ∀ K L W, Rl K L W dv v) : SX L X oi e (fun _ _ => some dv) :=
  ⟨fun a oe cls d pn _ _ => ⟨fun pins s σ H Q I ⟨W, st, x, dv', c, e1, q⟩ => (h a oe pn).run pins s σ H Q I (by cases e1; exact q W H v .rfl' c.S (r _ _ _))⟩⟩
theorem sx_str {x : Str} {j} : SX L X oi (.Constant (.str x) j pos) (fun _ _ => some (.str x)) := sx_k (v := .str x) (fun _ _ _ => pe_str) fun _ _ _ => Rl.str.mpr rfl
theorem zip_lk {f : Str} {v : V} : ∀ {ns : List Str} {vs : List V} {j : Nat}, ns.Nodup → ns[j]? = some f → vs[j]? = some v → (ns.zip vs).lookup f = some v
  | [], _, _, _, h, _ => by simp at h
  | _ :: _, [], _, _, _, h => by simp at h
  | n :: ns, w :: vs, 0, nd, h1, h2 => by
    simp at h1 h2
    subst h1 h2
    simp [List.lookup]
  | n :: ns, w :: vs, j + 1, nd, h1, h2 => by
    have h1' : ns[j]? = some f := by simpa using h1
    have ne : (f == n) = false := by
      have : f ≠ n := fun z => (List.nodup_cons.mp nd).1 (z ▸ List.mem_of_getElem? h1')
      simpa using this
    rw [List.zip_cons_cons, List.lookup, ne]
    exact zip_lk (List.nodup_cons.mp nd).2 h1' (by simpa using h2)
theorem sx_fld {i c0 j : Nat} {n f : Str} (T : XfC X.K (L.cad c0)) (hno : PySem.W.findIn X.K (.ref (L.cad c0)) f = some none) (hN : X.N[i]? = some n) (hv : Vis X.env.scope n) (nd : ((L.lay c0).map L.nm).Nodup) (hj : ((L.lay c0).map L.nm)[j]? = some f)
    (hd : (n == ("__debug__" : Str)) = false := by decide) (hcd : (n == ("__classdict__" : Str)) = false := by decide)
    (hb : attributeBase (.Name n p1) f X.env (eval (.Name n p1) X.env) = eval (.Name n p1) X.env := by rfl) :
    SX L X (some i) (.Attribute (.Name n p1) f pos) (fun x _ => if x.c = c0 then x.ds[j]? else none) := by
  refine ⟨fun a oe cls d pn hz hf => ⟨fun pins s σ H Q I ⟨W, st, x, dv, c, e1, q⟩ => ?_⟩⟩
  refine (pe_xf (X := X) (cls := cls) (d := d) (pos := pos) T hno hz hf (pe_var (X := X.suite a ((a, oe) :: pn)) (pos := p1) hN hv hd hcd) hb).run pins s σ H Q I ?_
  dsimp only at e1
  split at e1
  · rename_i hc
    obtain ⟨xr1, xr2⟩ := c.xr
    rw [hc] at xr1 xr2
    refine ⟨.ref a, var_suite hN I c, rfl, xr1, ?_⟩
    rcases xr2 with ⟨h1, _⟩ | ⟨dd, vs, h1, h2, h3, h4⟩
    · rw [h1] at e1; simp at e1
    · obtain ⟨v, hv1, hv2⟩ := h4.get e1
      exact ⟨dd, _, v, h1, c.S.fz _ _ h2, zip_lk nd hj hv1, q W H v .rfl' c.S hv2⟩
  · cases e1
theorem sa_nil : SA L X oi [] (fun _ _ => some []) := ⟨fun x _ ds h => by cases h; rfl, fun a oe cls d pn hz hf => ⟨fun pos pins s σ H Q I ⟨W, st, x, dv, c, e1, q⟩ => pa_nil.run pos pins s σ H Q I (by cases e1; exact q W H [] .rfl' c.S (Rls.nil.mpr rfl))⟩⟩
theorem sa_cons {g : Exn → Store → Option D} {r : Exn → Store → Option (List D)} (h : SX L X oi e g) (hr : SA L X oi es r) (hs : starEach (e :: es) X.env = (false, eval e X.env) :: starEach es X.env := by rfl) : SA L X oi (e :: es) (fun x st => (g x st).bind fun d => (r x st).bind fun l => some (d :: l)) := by
  refine ⟨fun x st ds h => ?_, fun a oe cls d pn hz hf => ⟨fun pos pins s σ H Q I ⟨W, st, x, dv, c, e1, q⟩ => ?_⟩⟩
  · obtain ⟨d, h1, h⟩ := Option.bind_eq_some_iff.mp h
    obtain ⟨l, h2, h⟩ := Option.bind_eq_some_iff.mp h
    cases h
    rw [List.length_cons, List.length_cons, hr.len x st l h2]
  · obtain ⟨d0, h1, h3⟩ := Option.bind_eq_some_iff.mp e1
    obtain ⟨l, h2, h3⟩ := Option.bind_eq_some_iff.mp h3
    cases h3
    refine (pa_cons (h.run a oe cls d pn hz hf) (hr.run a oe cls d pn hz hf) hs).run pos pins s σ H Q I ?_
    refine ⟨W, st, x, d0, c, h1, fun W1 H1 v e2 S2 R2 => ⟨W1, st, x, l, c.next e2 S2, h2, fun W2 H2 vs e3 S3 R3 => q W2 H2 _ (e2.trans e3) S3 (Rls.mk (R2.mono e3) R3)⟩⟩
theorem sx_tup {r : Exn → Store → Option (List D)} {x1} (hr : SA L X oi es r) (hz : es.length ≤ 1000 := by decide) : SX L X oi (.Tuple es x1 pos) (fun x st => (r x st).map D.tup) := by
  refine ⟨fun a oe cls d pn hz' hf => ⟨fun pins s σ H Q I ⟨W, st, x, dv, c, e1, q⟩ => ?_⟩⟩
  obtain ⟨l, h1, h2⟩ := Option.map_eq_some_iff.mp e1
  subst h2
  refine (pe_tup (x1 := x1) (pos := pos) (hr.run a oe cls d pn hz' hf)).run pins s σ H Q I ?_
  refine ⟨W, st, x, l, c, h1, fun W1 H1 vs e2 S2 R2 => ⟨?_, fun p hp => ?_⟩⟩
  · rw [← R2.length, hr.len x st l h1, sizeLine_eq]; omega
  · obtain ⟨e3, S3⟩ := S2.alloc_fz (o := .tup vs) hp
    exact q _ _ _ (e2.trans e3) S3 (Rl.tup.mpr ⟨_, vs, rfl, .inl (.inl (by show upd _ _ _ _ = _; exact upd_same)), R2.mono e3⟩)
theorem sx_ifx {t u : Expr} {g gt gu : Exn → Store → Option D} (ht : SX L X oi e gt) (h : SX L X oi t g) (hu : SX L X oi u gu) (he : ∀ whole, isTrue e X.env whole = (do let v ← whole; standAt e.pos; holding [v] (truthy v)) := by intro _; rfl) :
    SX L X oi (.IfExp e t u pos) (fun x st => match gt x st with | some (.bl true) => g x st | some (.bl false) => gu x st | _ => none) := by
  refine ⟨fun a oe cls d pn hz hf => ⟨fun pins s σ H Q I ⟨W, st, x, dv, c, e1, q⟩ => ?_⟩⟩
  refine (pe_ifExp (pos := pos) (pt_val (ht.run a oe cls d pn hz hf) he) (h.run a oe cls d pn hz hf) (hu.run a oe cls d pn hz hf)).run pins s σ H Q I ?_
  have e1 : (match gt x st with | some (.bl true) => g x st | some (.bl false) => gu x st | _ => none) = some dv := e1
  cases hb : gt x st with
  | none => rw [hb] at e1; cases e1
  | some dd =>
    rw [hb] at e1
    cases dd with
    | bl b =>
      refine ⟨W, st, x, .bl b, c, hb, fun W1 H1 v e2 S2 R2 => ?_⟩
      cases (Rl.bl.mp R2)
      refine ⟨b, rfl, ?_⟩
      cases b with
      | true => exact ⟨W1, st, x, dv, c.next e2 S2, e1, fun W2 H2 v2 e3 => q W2 H2 v2 (e2.trans e3)⟩
      | false => exact ⟨W1, st, x, dv, c.next e2 S2, e1, fun W2 H2 v2 e3 => q W2 H2 v2 (e2.trans e3)⟩
    | _ => cases e1
end
end Gm
namespace Gm
open PySem PySem.Spec PyProof.Rows L2
def unb (ρ : Ev) : Option Nat → Ev
  | none => ρ
  | some i => ρ.set i none
def Hm.runM (m : Hm) (oi : Option Nat) (x : Exn) (ρ : Ev) (st : Store) : SR := match m.g x st with
  | none => .stuck
  | some d => match m with
    | .ret _ => .rt d st
    | .set j _ => .nx ((unb ρ oi).set j (some d)) st
def runH (x : Exn) (ρ : Ev) (st : Store) : List Hc → SR
  | [] => .err x ρ st
  | h :: r => match h.t x.c with
    | none => .stuck
    | some false => runH x ρ st r
    | some true => h.m.runM h.oi x ρ st
section
variable {L : Lw} {X : Cx} {Wx : WX} {k : Nat} {c : Fn} {oi : Option Nat} {e : Expr} {pos p : Pos}
theorem hr_set {j : Nat} {y : Str} {g : Exn → Store → Option D} (h : SX L X oi e g) (hap : (Hm.set j g).apart oi) (hN : X.N.Nodup) (hi : X.N[j]? = some y) (hx : Loc X.env.scope y) (hs : swapsWith e (some (.Name y p)) pos.line X.env = pure false := by rfl)
    (hf : X.fn y = true ∨ X.env.scope.names.lookup y = some .local := by first | exact .inl rfl | exact .inr rfl | assumption) : HR L X oi [.Assign [.Name y p] e pos] (.set j g) :=
  ⟨hap, fun a oe cls d pn hz hf' => pss_one ⟨fun pins s σ H D I ⟨W, st, x, dv, c, e1, q⟩ => (ps_set (X := X.suite a ((a, oe) :: pn)) (pos' := p) (pos := pos) hN hi hx (h.run a oe cls d pn hz hf') hs hf).run pins s σ H D I ⟨W, st, x, dv, c, e1, q⟩⟩⟩
theorem HdsR.mix {hds : List ExceptHandler} {l : List Hc} (h : HdsR L X hds l) : ∃ ml, HdsMix X hds ml ∧ ∀ (Wx : WX) (W' : Wd) (D : Ends) (x : Exn) (ρ : Ev) (st : Store) (H : Hp) (σ : St) (cls : Value) (dx : Option Addr), OutS X.K L Wx W' D (runH x ρ st l) → Sok X.K L W' st H → EnR X.K L W' σ ρ → XR X.K L W' x cls dx → wMix X.K Wx D ml cls dx σ H := by
  induction h with
  | nil => exact ⟨[], .nil, fun Wx W' D x ρ st H σ cls dx o S E R => o W' H σ cls dx .rfl' S E R⟩
  | @plain y cv t m b₀ suite np pos' hds l hc ht h r ih =>
    obtain ⟨ml, h1, h2⟩ := ih
    refine ⟨(cv, none, hmT L X.K none m) :: ml, .plain hc h.run h1, fun Wx W' D x ρ st H σ cls dx o S E R => ?_⟩
    unfold runH at o
    cases hb : t x.c with
    | none => simp only [hb] at o; exact o.elim
    | some b =>
      simp only [hb] at o
      refine ⟨b, by rw [R.1]; exact ht _ _ hb, fun e a ha => ?_, fun e => ?_⟩
      · subst e
        dsimp only at o ⊢
        unfold Hm.runM at o
        cases hg : m.g x st with
        | none => simp only [hg] at o; exact o.elim
        | some dv =>
          simp only [hg] at o
          refine ⟨W', st, x, dv, ⟨S, R, fun i z => by cases z⟩, hg, fun W2 H2 v e2 S2 R2 => ?_⟩
          cases m with
          | ret g => exact o W2 H2 v e2 S2 R2
          | set j g =>
            refine o W2 H2 _ e2 S2 ⟨by simp [unb, E.1], fun i' d' q => ?_⟩
            have q' : (ρ.set j (some dv))[i']? = some (some d') := q
            rw [List.getElem?_set] at q' ⊢
            split at q'
            · rename_i e3
              subst e3
              split at q'
              · rename_i h3
                cases q'
                rw [if_pos rfl, if_pos (by rw [← E.1]; exact h3)]
                exact ⟨v, rfl, R2⟩
              · cases q'
            · rename_i e3
              rw [if_neg e3]
              obtain ⟨v', h3, h4⟩ := E.2 i' d' q'
              exact ⟨v', h3, h4.mono e2⟩
      · subst e
        exact h2 Wx W' D x ρ st H σ cls dx o S E R
  | @named y n i cv t m b₀ suite np pos' hds l hc ht hi hln h r ih =>
    obtain ⟨ml, h1, h2⟩ := ih
    refine ⟨(cv, some i, hmT L X.K (some i) m) :: ml, .named hc hi hln h.run h1, fun Wx W' D x ρ st H σ cls dx o S E R => ?_⟩
    unfold runH at o
    cases hb : t x.c with
    | none => simp only [hb] at o; exact o.elim
    | some b =>
      simp only [hb] at o
      refine ⟨b, by rw [R.1]; exact ht _ _ hb, fun e a ha => ?_, fun e => ?_⟩
      · subst e
        dsimp only at o ⊢
        unfold Hm.runM at o
        cases hg : m.g x st with
        | none => simp only [hg] at o; exact o.elim
        | some dv =>
          simp only [hg] at o
          refine ⟨W', st, x, dv, ⟨S, R, fun i' z hl => ?_⟩, hg, fun W2 H2 v e2 S2 R2 => ?_⟩
          · cases z
            rw [List.getElem?_set_self (by simpa using hl)]
          · have hap := h.ap
            cases m with
            | ret g => exact o W2 H2 v e2 S2 R2
            | set j g =>
              have hji : j ≠ i := hap
              refine o W2 H2 _ e2 S2 ⟨by simp [unb, E.1], fun i' d' q => ?_⟩
              have q' : ((ρ.set i none).set j (some dv))[i']? = some (some d') := q
              have e4 : (((σ.set i (some (V.ref a))).set j (some v)).set i none)[i']? = if i = i' then (if i < σ.length then some none else none) else (if j = i' then (if j < σ.length then some (some v) else none) else σ[i']?) := by
                simp only [List.getElem?_set, List.length_set]
                split
                · rfl
                · split
                  · rfl
                  · first | rfl | rw [if_neg (by assumption)]
              rw [e4]
              simp only [List.getElem?_set, List.length_set] at q'
              by_cases a1 : j = i'
              · subst a1
                rw [if_neg (Ne.symm hji), if_pos rfl]
                rw [if_pos rfl] at q'
                split at q'
                · rename_i h3
                  cases q'
                  rw [if_pos (by rw [← E.1]; exact h3)]
                  exact ⟨v, rfl, R2⟩
                · cases q'
              · rw [if_neg a1] at q'
                by_cases a2 : i = i'
                · rw [if_pos a2] at q'
                  split at q' <;> cases q'
                · rw [if_neg a2] at q'
                  rw [if_neg a2, if_neg a1]
                  obtain ⟨v', h3, h4⟩ := E.2 i' d' q'
                  exact ⟨v', h3, h4.mono e2⟩
      · subst e
        exact h2 Wx W' D x ρ st H σ cls dx o S E R
theorem Gd.tr (G : Gd L X Wx k c) {W : WX} {pn : List (Addr × Obj)} {xe : Value → Shared → Prop} (tk : Takes (X.tr pn xe) W) (po : PassesOwn (model X.prog X.w) X.A X.env xe) : Gd L (X.tr pn xe) W k c := ⟨G.fo, G.room, tk, G.calm, po, G.nd⟩
end
end Gm
namespace Gm
open PySem PySem.Spec PyProof.Rows L2 LamX
section
variable {K : PySem.W.Frag} {L : Lw} {W : Wd} {st : Store} {H H1 : Hp}
end
def xLam (hs : List Hc) (d0 : D) (f : Fe) : Fe := fun ρ st => match f ρ st with
  | .ok _ st' => .ok d0 st'
  | .err x st' => match ansH x st' hs with
    | some d => .ok d st'
    | none => .stuck
  | .stuck => .stuck
section
variable {L : Lw} {X : Cx} {Wx : WX} {k : Nat} {c : Fn}
end

abbrev gcx (X : Cx) (Ng : List Str) (x : Str) (sg : Scope) (g : Addr) (cdg : Value) (s : Shared) (H : Hp) : Cx := (cxOf C8.CX0 X.prog X.w X.K X.mg X.base Ng x sg g cdg X.A X.stack s H C8.E0).nox
theorem runH_set {x : Exn} {ρ : Ev} {st : Store} {j : Nat} {dv : D} : ∀ {hs : List Hc}, (∀ h ∈ hs, ∃ g, h.m = .set j g) → ansH x st hs = some dv → ∃ oi, runH x ρ st hs = .nx ((unb ρ oi).set j (some dv)) st
  | [], _, h => by cases h
  | h :: r, hm, e => by
    unfold ansH at e
    unfold runH
    cases ht : h.t x.c with
    | none => rw [ht] at e; cases e
    | some b =>
      rw [ht] at e
      cases b with
      | false => exact runH_set (fun h' hh => hm h' (List.mem_cons_of_mem _ hh)) e
      | true =>
        obtain ⟨g, hg⟩ := hm h List.mem_cons_self
        have e' : h.m.g x st = some dv := e
        refine ⟨h.oi, ?_⟩
        show h.m.runM h.oi x ρ st = _
        unfold Hm.runM
        rw [e', hg]
section
variable {L : Lw} {X : Cx} {Ng : List Str} {x a q : Str} {sg : Scope} {g : Addr} {cdg : Value} {hs : List Hc} {h₀ : ExceptHandler} {hds : List ExceptHandler} {p1 p2 pe pt : Pos}
theorem try_gives {tl : XK → Hp → VK → Prop} {f c' : Addr} {s : Shared} {H : Hp} {Q : VK} (hN : Ng.Nodup) (hh : HdsR L (gcx X Ng x sg g cdg s H) (h₀ :: hds) hs) (hsw : swapsWith (.Call (.Name a p1) [] [] p2) none pe.line (gcx X Ng x sg g cdg s H).env = pure false)
    (act : ∀ (W : WX) (pn : List (Addr × Obj)) (xe : Value → Shared → Prop) (E : XK) (p1 p2 : Pos), Takes ((cxOf C8.CX0 X.prog X.w X.K X.mg X.base Ng x sg g cdg X.A X.stack s H C8.E0).tr pn xe) W → (∀ cls d σ' H', E cls d H' → W cls d σ' H') →
      PE ((cxOf C8.CX0 X.prog X.w X.K X.mg X.base Ng x sg g cdg X.A X.stack s H C8.E0).tr pn xe) (.Call (.Name a p1) [] [] p2) (fun σZ HZ Q => σZ[0]? = some (some (.ref f)) ∧ HZ c' = some (CodeO c' q) ∧ tl E HZ Q)) :
    PS (gcx X Ng x sg g cdg s H) (.Try [.Expr (.Call (.Name a p1) [] [] p2) pe] (h₀ :: hds) [] [] pt)
      (fun D σ H1 => σ[0]? = some (some (.ref f)) ∧ H1 c' = some (CodeO c' q) ∧ (∀ cls d σ' H', EX L X.K hs Q cls d H' → ∃ W' st y ρ, Sok X.K L W' st H' ∧ EnR X.K L W' σ' ρ ∧ XR X.K L W' y cls d ∧ OutS X.K L (fun _ _ _ _ => False) W' D (runH y ρ st hs)) ∧ tl (EX L X.K hs Q) H1 (fun _ H' => D.nx σ H')) := by
  obtain ⟨ml, m1, m2⟩ := hh.mix
  refine ⟨fun pins s' σ H1 D I ⟨e1, e2, e3, e4⟩ => ?_⟩
  refine (ps_try_mix (X := gcx X Ng x sg g cdg s H) (pos := pt) (tb := fun W D σ H => (∀ cls d σ' H', EX L X.K hs Q cls d H' → W cls d σ' H') ∧ σ[0]? = some (some (.ref f)) ∧ H c' = some (CodeO c' q) ∧ tl (EX L X.K hs Q) H (fun _ H' => D.nx σ H'))
    rfl rfl hN L2.takes0 (fun W pn xe tk _ => ?_) m1).run pins s' σ H1 D I ?_
  · refine ⟨fun pins s2 σ2 H2 D2 I2 ⟨b1, b2, b3, b4⟩ => ?_⟩
    exact (pss_one (ps_expr (pos := pe) (act W pn xe (EX L X.K hs Q) p1 p2 tk b1) hsw)).run pins s2 σ2 H2 D2 I2 ⟨b2, b3, b4⟩
  · refine ⟨fun cls d σ' H' ex => ?_, e1, e2, e4⟩
    obtain ⟨W', st, y, ρ, S, E, R, o⟩ := e3 cls d σ' H' ex
    exact m2 _ W' D y ρ st H' σ' cls d o S E R
theorem enr_none {K : PySem.W.Frag} {L : Lw} {W : Wd} {σ : St} : EnR K L W σ (List.replicate σ.length none) := ⟨by rw [List.length_replicate], fun i d e => by
  rw [List.getElem?_replicate] at e
  split at e <;> cases e⟩
theorem start_0 {f : Addr} (h : 0 < Ng.length) : (L2.start Ng [V.ref f])[0]? = some (some (V.ref f)) := by
  unfold L2.start
  rfl
end
section
variable {L : Lw} {X : Cx} {Wx : WX} {k : Nat} {c : Fn}
end
end Gm
namespace Gm
open PySem PySem.Spec PyProof.Rows L2
theorem oexB_ok {K : PySem.W.Frag} {C : Addr} (h : oexB K C = true) : OexC K C := by
  unfold oexB at h
  simp only [Bool.and_eq_true] at h
  obtain ⟨⟨⟨⟨h1, h2⟩, h3⟩, h4⟩, h5⟩ := h
  refine ⟨?_, He.eqO_ok h2, of_decide_eq_true h3, of_decide_eq_true h4, h5⟩
  split at h1
  · rename_i dd cd sl ho
    split at h1
    · rename_i C' bm k0 k1 k2 k3 n k5 hm hs
      simp only [Bool.and_eq_true, beq_iff_eq, Bool.not_eq_true'] at h1
      obtain ⟨⟨⟨⟨rfl, rfl⟩, hdel⟩, hhd⟩, hr⟩ := h1
      obtain ⟨nm, bs, mro, ns, qn, hd, sn, sub, ab, col, del⟩ := cd
      dsimp only at hm hdel hhd
      subst hm hdel hhd
      have hsl : sl = #[k0, k1, k2, k3, some (.builtin "ValueError.__new__"), k5] := by
        obtain ⟨l⟩ := sl
        simp only at hs
        rw [hs]
      subst hsl
      exact ⟨nm, qn, ns, bs, bm, sn, sub, ab, col, dd, k0, k1, k2, k3, k5, ho, hr⟩
    · cases h1
  · cases h1

theorem sup_of {P : Program} {K : PySem.W.Frag} {mg : Str → Option Value} {file x q : Str} {st : Stmt} (h : supB file K x = true) (hv : fwX K x = valX q st) (hP : P.main.file = file) (htop : (P.main.scope.names.lookup ("super" : Str)).isSome = false) (hs : mg "super" = none) :
    ∃ (oc : Value) (od : Option Addr) (kV doc pm : Value) (an : Option Addr) (cda cc : Addr) (ct : Value) (osl : Array (Option Value)),
      K.lookup (initA K x) = some ⟨oc, od, .func (PySem.W.ksFn "__init__" q (defArgs st) (defBody st) (defScope st) .none kV doc pm an (.ref cda) ct cc), osl⟩ ∧ PySem.W.codeIn K (.ref cda) q = true ∧ SupC P K mg (He.ga K x) cc cda ∧
      PySem.W.findIn K (.ref (He.ga K x)) "__init__" = some (some (.ref (initA K x))) ∧ PySem.W.typeIn K (.ref (initA K x)) = some (.type "function") := by
  unfold supB at h
  simp only [Bool.and_eq_true] at h
  obtain ⟨⟨⟨⟨⟨⟨⟨⟨h1, h2⟩, h3⟩, h4⟩, h5⟩, h6⟩, h7⟩, h8⟩, h9⟩ := h
  unfold fwX valX at hv
  cases hl : K.lookup (initA K x) with
  | none => rw [hl] at h1; cases h1
  | some o =>
    obtain ⟨oc, od, dt, osl⟩ := o
    rw [hl] at h1 hv
    cases dt with
    | func fd =>
      have hv2 : some (fd.name, fd.qualname, fd.params, fd.body, fd.scope, fd.globals, fd.closure.map (·.1), fd.builtins) = some (("__init__" : Str), q, defArgs st, FuncBody.stmts (defBody st), defScope st, mainGlobals, [("__class__" : Str)], builtinsNs) := hv
      have h12 : (match fd.code, fd.closure with
        | .ref cda, [(n, cc)] => n == "__class__" && PySem.W.codeIn K fd.code fd.qualname && fileB K cda file && cellB K cc (He.ga K x) && (match fd.defaults with | .none => true | _ => false)
        | _, _ => false) = true := h1
      clear h1 hv
      split at h12
      · rename_i cda n cc e1 e2
        simp only [Bool.and_eq_true, beq_iff_eq] at h12
        obtain ⟨⟨⟨⟨rfl, g1⟩, g2⟩, g3⟩, g4⟩ := h12
        cases fd
        dsimp only at e1 e2 hv2 g1 g4
        subst e1 e2
        split at g4
        rotate_left
        · cases g4
        simp only [Option.some.injEq, Prod.mk.injEq] at hv2
        obtain ⟨rfl, rfl, rfl, rfl, rfl, rfl, _, rfl⟩ := hv2
        obtain ⟨cd, hcd⟩ := Option.isSome_iff_exists.mp h3
        refine ⟨oc, od, _, _, _, _, cda, cc, _, osl, rfl, g1, ⟨oexB_ok h2, ?_, ?_, ⟨cd, hcd⟩, of_decide_eq_true h4, hs, He.eqO_ok h5, of_decide_eq_true h6, He.eqO_ok h7, htop⟩, He.eqO_ok h8, of_decide_eq_true h9⟩
        · unfold fileB at g2
          split at g2
          · rename_i c1 c2 vs c3 hk
            split at g2
            · rename_i f' t' hf
              exact ⟨_, _, vs, _, f', t', hk, hf, by rw [hP]; have := beq_iff_eq.mp g2; subst this; exact beq_self_eq_true _⟩
            · cases g2
          · cases g2
        · unfold cellB at g3
          split at g3
          · rename_i c1 c2 D c3 hk
            have := beq_iff_eq.mp g3
            subst this
            exact ⟨_, _, _, hk⟩
          · cases g3
      · cases h12
    | _ => cases h1
open NdefX in
theorem xc1_of {P : Program} {w : World} {K : PySem.W.Frag} {mg : Str → Option Value} {base : Heap} {L : Lw} {i g k : Nat} {file x q n f : Str} {st : Stmt} {p0 p1 pa p2 pc pe q1 q2 q3 q4 : Pos} {ar : Arg}
    (h : supB file K x = true) (hv : fwX K x = valX q st) (hP : P.main.file = file) (htop : (P.main.scope.names.lookup ("super" : Str)).isSome = false) (hs : mg "super" = none) (hm : mg x = some (.ref (He.ga K x))) (hc : L.cad i = He.ga K x) (hl : L.lay i = [g]) (hf : L.nm g = f)
    (hno : PySem.W.findIn K (.ref (He.ga K x)) f = some none)
    (hb : defBody st = [.Expr (.Call (.Attribute (.Call (.Name "super" p0) [] [] p1) "__init__" pa) [.Name n p2] [] pc) pe, .Assign [.Attribute (.Name "self" q1) f q2] (.Name n q3) q4])
    (S : NScope ["self", n, "__class__"] ["self", n] ["__class__"] (defScope st)) (hp : ((defArgs st).posonlyargs ++ (defArgs st).args).head? = some ar) (har : ar.arg = "self") (hks : (defScope st).names.lookup ("super" : Str) = some .globalImplicit)
    (hbind : ∀ (kV doc pm : Value) (an : Option Addr) (cdv ct : Value) (cc : Addr) (us : List Value), us.length = 2 → bindArgs (PySem.W.ksFn "__init__" q (defArgs st) (defBody st) (defScope st) .none kV doc pm an cdv ct cc) ⟨us, []⟩ = pure ((["self", n] : List Str).zip us))
    {pl : Env → Sem Bool}
    (he : ∀ env : Env, eval (.Call (.Attribute (.Call (.Name "super" p0) [] [] p1) "__init__" pa) [.Name n p2] [] pc) env = (do
      let ov ← attributeBase (.Call (.Name "super" p0) [] [] p1) "__init__" env (eval (.Call (.Name "super" p0) [] [] p1) env)
      standAt pa.atName
      let (f, first) ← holding [ov] (getMethod ov "__init__" (pl env))
      callWith pc f first (backTo pc (starEach [.Name n p2] env)) []))
    (hn1 : (n == ("__debug__" : Str)) = false) (hn2 : (n == ("__classdict__" : Str)) = false) :
    Xc1 P w K mg base (k + 1) L i x g (initA K x) ((fdO (K.lookup (initA K x))).getD default) ["self", n] := by
  obtain ⟨oc, od, kV, doc, pm, an, cda, cc, ct, osl, lk, hcd, Z, h1, h2⟩ := sup_of (P := P) (mg := mg) h hv hP htop hs
  have efd : (fdO (K.lookup (initA K x))).getD default = PySem.W.ksFn "__init__" q (defArgs st) (defBody st) (defScope st) .none kV doc pm an (.ref cda) ct cc := by rw [lk]; rfl
  rw [efd]
  refine ⟨hl, by rw [hc]; exact Z.T, by rw [hc]; exact h1, h2, ?_, fun s us X hlen => .of_eq (by rw [List.append_nil] at hlen ⊢; exact hbind _ _ _ _ _ _ _ us hlen), by rw [hc]; exact hm⟩
  rw [hc, hf]
  rw [hb] at lk ⊢
  have nself : (defScope st).names.lookup ("self" : Str) = some .local := S.par "self" List.mem_cons_self
  have nn : (defScope st).names.lookup n = some .local := S.par n (List.mem_cons_of_mem _ List.mem_cons_self)
  refine sup_fn (pl := pl) (N := ["self", n, "__class__"]) lk hcd S Z hp (by rw [har]; rfl) (by rw [har]; exact nself) hks (fun vs H Q E h => by obtain ⟨a, y, rfl, _⟩ := h; rfl) (fun _ => rfl) (fun _ => rfl) (fun _ => rfl) he fun A outer s H vs Q E hsp => ?_
  obtain ⟨a, y, rfl, hH, hq⟩ := hsp
  refine ⟨a, _, _, rfl, hH, pa_cons (pe_var (i := 1) (by rfl) (.inl nn) hn1 hn2) pa_nil rfl, ?_, pss_one (ps_ost (pe_var (i := 0) (by rfl) (.inl nself)) (pe_var (i := 1) (by rfl) (.inl nn) hn1 hn2) rfl), ?_⟩
  · exact ⟨y, rfl, by simp, rfl⟩
  · refine ⟨y, rfl, .ref a, rfl, a, He.ga K x, rfl, Z.T, hno, .inl ⟨hH, fun dx h1 h2 => hq dx h1 h2⟩⟩
end Gm
namespace Gm
open PySem PySem.Spec PyProof.Rows L2
theorem apart_of {t : Tb} {K : PySem.W.Frag} (h : apartB t K = true) {p q : Addr × Str} (hp : p ∈ (t.lw K).tabs) (hq : q ∈ (t.lw K).tabs) (e : q.1 = p.1) : q.2 = p.2 := by
  have := List.all_eq_true.mp (List.all_eq_true.mp h q hq) p hp
  rw [e, beq_self_eq_true] at this
  simpa using this
theorem obsY_eq {n : Nat} {fa : List He.Fa} {fn : List He.DefD} {ex : PySem.W.Frag → Bool} {xs : List Str} {xv : List FxW} {t : Tb} {g : Addr → Option Obj} {s : Shared} (h : ∀ a, g a = s.heap.get? a) : obsY n fa fn ex xs t g = (hookY n fa fn ex xs xv t).obs s := by
  rw [show g = s.heap.get? from funext h] <;> rfl
def Ce (ns : List Int) (ce : Cell) : Prop := ce = .rol (ns.map D.int) ∨ ce = .lst (ns.map D.int)
theorem sok_lawY {K : PySem.W.Frag} {L : Lw} {H : Hp} {a : Addr} {ns : List Int} (hS : SqL K H a (ns.map V.int)) (hT : LamX.Tabs L.tabs H) : ∃ ce, Ce ns ce ∧ Sok K L ⟨fun _ => none, [a]⟩ [ce] H := by
  have gen : ∀ ce : Cell, CellR K L ⟨fun _ => none, [a]⟩ H a ce → Sok K L ⟨fun _ => none, [a]⟩ [ce] H := fun ce hc => by
    refine ⟨fun b o h => (nomatch h), rfl, fun n c b h1 h2 => ?_, fun n c b h1 h2 h3 => rfl, fun m n c c' b h1 h2 l1 l2 h3 h4 => ?_, fun b o h => (nomatch h), hT⟩
    · cases n with
      | zero => cases h1; cases h2; exact hc
      | succ n => simp at h1
    · cases m with
      | zero =>
        cases n with
        | zero => rfl
        | succ n => simp at h2
      | succ m => simp at h1
  rcases hS with (h | ⟨o, h⟩) | ⟨o, its, n, q1, q2, q3, q4, q5, q6⟩
  · exact ⟨_, .inr rfl, gen _ ⟨ns.map V.int, h, Rls.ints ns⟩⟩
  · exact ⟨_, .inl rfl, gen _ ⟨ns.map V.int, .inl ⟨o, h⟩, Rls.ints ns⟩⟩
  · exact ⟨_, .inl rfl, gen _ ⟨ns.map V.int, .inr ⟨o, its, n, q1, q2, q3, q4, q5, q6⟩, Rls.ints ns⟩⟩
theorem law_spY {t : Tb} {K : PySem.W.Frag} {m : List D → Store → Res D} (hL : ∀ (ns : List Int) (ce : Cell), ns.length ≤ 63 → Ce ns ce → ∃ st, m [.ref 0] [ce] = .ok (.bl true) st) {H : Hp} {a : Addr} {ns : List Int} (hl : ns.length ≤ 63)
    (hT : ∀ p ∈ csOf t K, H p.2 = some (.tbl #[])) (hS : SqL K H a (ns.map V.int)) : spM K (t.lw K) 1 m [.ref a] H (fun v _ => v = .bl true) fun _ _ _ => False := by
  have tabs : LamX.Tabs (t.lw K).tabs H := fun p hp => by
    obtain ⟨q, hq, rfl⟩ := List.mem_map.mp hp
    exact LamX.TabS.nil (hT (codeA K q.1, He.tabOf K (codeA K q.1)) (List.mem_map.mpr ⟨q, hq, rfl⟩))
  obtain ⟨ce, h1, h2⟩ := sok_lawY hS tabs
  obtain ⟨st, e⟩ := hL ns ce hl h1
  refine ⟨rfl, [.ref 0], ⟨fun _ => none, [a]⟩, [ce], Rls.mk (Rl.ref.mpr ⟨a, rfl, rfl⟩) (Rls.nil.mpr rfl), h2, ?_⟩
  rw [e]
  exact fun W' H' _ _ v R => Rl.bl.mp R
end Gm
namespace Gm
open PySem PySem.Spec PyProof.Rows L2
def gK (d : D) : Exn → Store → Option D := fun _ _ => some d
def gF (c0 j : Nat) : Exn → Store → Option D := fun x _ => if x.c = c0 then x.ds[j]? else none
def gI (c0 : Nat) (b : Bool) : Exn → Store → Option D := fun x _ => if x.c = c0 then some (.bl b) else none
def gIf (t a b : Exn → Store → Option D) : Exn → Store → Option D := fun x st => match t x st with | some (.bl true) => a x st | some (.bl false) => b x st | _ => none
def gTu (r : Exn → Store → Option (List D)) : Exn → Store → Option D := fun x st => (r x st).map D.tup
def gNi : Exn → Store → Option (List D) := fun _ _ => some []
def gCo (g : Exn → Store → Option D) (r : Exn → Store → Option (List D)) : Exn → Store → Option (List D) := fun x st => (g x st).bind fun d => (r x st).bind fun l => some (d :: l)
def tL (l : List (Nat × Bool)) : Nat → Option Bool := fun c => l.lookup c
theorem look_mem {c : Nat} {b : Bool} : ∀ {l : List (Nat × Bool)}, l.lookup c = some b → (c, b) ∈ l
  | [], h => by cases h
  | (d, e) :: r, h => by
    rw [List.lookup_cons] at h
    cases q : c == d with
    | true =>
      rw [q] at h
      have e1 : c = d := eq_of_beq q
      have e2 : e = b := Option.some.inj h
      subst e1 e2
      exact List.mem_cons_self
    | false =>
      rw [q] at h
      exact List.mem_cons_of_mem _ (look_mem h)
theorem exm_of {t : Tb} {K : PySem.W.Frag} {l : List (Nat × Bool)} {cv : Value} (h : exmB t K l cv = true) (c : Nat) (b : Bool) (e : tL l c = some b) : PySem.W.exmOne K (.ref ((t.lw K).cad c)) cv = some b := by
  have hm : (c, b) ∈ l := look_mem e
  exact of_decide_eq_true (List.all_eq_true.mp h _ hm)
theorem excC_of {K : PySem.W.Frag} {D : Addr} (h : excCB K D = true) : ExcC K D := by
  unfold excCB at h
  simp only [Bool.and_eq_true] at h
  obtain ⟨h1, h2, h3, h4, h5, h6, h7, h8⟩ := h
  exact ⟨He.eqO_ok h1, He.eqO_ok h2, of_decide_eq_true h3, h4, He.eqO_ok h5, He.eqO_ok h6, of_decide_eq_true h7, of_decide_eq_true h8⟩
theorem code_at {K : PySem.W.Frag} {d : He.DefD} {fd : FuncData} (F : FunD K d.name d.qual d.params d.body d.scope (d.dvs K) (d.kws K) (adr K d.at_) fd) {cdv : Value} (h : ((fdO (K.lookup (adr K d.at_))).getD default).code = cdv) : cdv = .ref (codeA K d.at_) := by
  obtain ⟨oc, od, dV, kV, doc, pm, an, cdv', ct, osl, e, lk, hcd, _, _⟩ := F.ex
  obtain ⟨c, ec⟩ := He.codeIn_ref hcd
  subst e ec
  rw [lk] at h
  have h' : Value.ref c = cdv := h
  rw [← h']
  unfold codeA
  rw [lk]
  rfl
theorem bind_at {K : PySem.W.Frag} {d : He.DefD} {fd : FuncData} {ps : List Str} (F : FunD K d.name d.qual d.params d.body d.scope (d.dvs K) (d.kws K) (adr K d.at_) fd) (hd : d.dfl = []) (hk : d.kwd = [])
    (h : ∀ (kV doc pm : Value) (an : Option Addr) (cdv ct : Value) (us : List Value), us.length = ps.length → bindArgs (PySem.W.fnOf d.name d.qual d.params d.body d.scope .none kV doc pm an cdv ct) ⟨us, []⟩ = pure (ps.zip us)) : L2.Binds K ((fdO (K.lookup (adr K d.at_))).getD default) ps [] := by
  have F' : FunD K d.name d.qual d.params d.body d.scope [] [] (adr K d.at_) fd := by
    have := F
    unfold He.DefD.dvs He.DefD.kws at this
    rw [hd, hk] at this
    exact this
  rw [fd_eq F]
  exact FunD.bindsN F' h
end Gm
namespace PySem.SeqAt
open AutoSeq1 (wpAny_loadPart')
open MeetsSeq MeetsSeq2 MeetsSeq3 SeqRoads2
end PySem.SeqAt

namespace Gm
open PySem PySem.Spec PyProof.Rows L2
section
variable {X : Cx} {pins : List (Addr × Obj)} {σ : St} {H : Hp} {s : Shared}
end
section
variable {K : PySem.W.Frag} {L : Lw} {W : Wd} {st : Store} {H : Hp}
end
section
variable {L : Lw} {X : Cx} {Wx : WX} {k : Nat} {c : Fn} {o e : Expr} {apos pos : Pos}
end
end Gm
namespace Gm
open PySem PySem.Spec PyProof.Rows L2 LamX
section
variable {K : PySem.W.Frag} {L : Lw} {W : Wd} {st : Store} {H : Hp}
theorem Sok.know (s : Sok K L W st H) {a : Addr} {φ : Heap → Prop} (h : H a = some (.ext φ)) : ∃ W', W.le W' ∧ Sok K L W' st H ∧ W'.fz a = some (.ext φ) ∧ W'.io = W.io := by
  cases q : W.fz a with
  | some u =>
    have := s.fz a u q
    rw [h] at this
    cases this
    exact ⟨W, .rfl', s, q, rfl⟩
  | none =>
    have e := Wd.le_freeze (o := HO.ext φ) q
    refine ⟨W.freeze a (.ext φ), e, ⟨fun b u hb => ?_, s.len, fun n c b e1 e2 => (s.cell n c b e1 e2).mono e fun _ z => z, fun n c b e1 e2 e3 => ?_, s.inj, fun b u hb => ?_, s.tb⟩, upd_same, rfl⟩
    · have hb' : upd W.fz a (.ext φ) b = some u := hb
      by_cases z : b = a
      · subst z
        rw [upd_same] at hb'
        cases hb'
        exact h
      · rw [upd_ne z] at hb'
        exact s.fz b u hb'
    · show upd W.fz a (.ext φ) b = none
      have h2 := s.cell n c b e1 e3
      have z : b ≠ a := fun z => by
        subst z
        cases c with
        | lst _ => obtain ⟨us, h5, _⟩ := h2; rw [h] at h5; cases h5
        | dic _ => obtain ⟨us, h5, _⟩ := h2; rw [h] at h5; cases h5
        | ins _ _ => obtain ⟨_, us, h5, _⟩ := h2; rw [h] at h5; cases h5
        | rol _ => cases e2
        | dead => cases e2
        | clo _ _ _ => cases e2
      rw [upd_ne z]
      exact s.ap n c b e1 e2 e3
    · have hb' : upd W.fz a (.ext φ) b = some u := hb
      by_cases z : b = a
      · subst z
        rw [upd_same] at hb'
        cases hb'
        exact fun _ w => by cases w
      · rw [upd_ne z] at hb'
        exact s.nt b u hb'
end
theorem cloO_at {P : Program} {w : World} {H : Hp} {h : Heap} {f : Addr} {F : LF} {cl : List (Str × Addr)} {c' : Addr} (hok : HOk P w H h) (e : H f = some (CloO f F cl c')) : ∃ pm ctv : Value, h.get? f = some (PySem.W.kla_obj "<lambda>" F.qual F.params F.body F.scope cl pm c' ctv) := by
  obtain ⟨z, _, _⟩ := hok f _ e
  exact z
section
variable {X : Cx} {pins : List (Addr × Obj)} {σ : L2.St} {H : Hp} {s : Shared}
theorem inv_clo {F : LF} {cl : List (Str × Addr)} {c' : Addr} {pm ctv : Value} {t' : Nat} (I : Inv X pins σ H s) :
    Inv X pins σ (upd H s.heap.objs.size (CloO s.heap.objs.size F cl c')) { s with heap := s.heap.push (PySem.W.kla_obj "<lambda>" F.qual F.params F.body F.scope cl pm c' ctv), toks := t' } := by
  have e : (s.heap.push (PySem.W.kla_obj "<lambda>" F.qual F.params F.body F.scope cl pm c' ctv)).get? s.heap.objs.size = some (PySem.W.kla_obj "<lambda>" F.qual F.params F.body F.scope cl pm c' ctv) := Heap.get?_push_size _ rfl
  exact I.laid (a := s.heap.objs.size) (fun _ _ q => Heap.get?_push_of_some _ q) (Nat.le_refl _) ⟨⟨pm, ctv, e⟩, ⟨_, e⟩, fun _ _ ⟨p, t, z⟩ st => ⟨p, t, st _ z⟩⟩
def tClo (T : List (Addr × Str)) (F : LF) (γ : List (Str × Addr)) : TE := fun _ H Q => Tabs T H ∧ ∀ (f c' : Addr) (H1 : Hp), ExtN H H1 → Tabs T H1 → H1 f = some (CloO f F (cloFrom γ F.scope.names []) c') → H1 c' = some (CodeO c' F.qual) → Q (.ref f) H1
theorem pe_clo {T : List (Addr × Str)} {c P : Addr} {params : Arguments} {body : Expr} {scope : Scope} {pos : Pos} (TB : TabB X.base X.mg c P) (hcode : X.env.code = .ref c) (hmT : (P, X.env.qual ++ "<lambda>") ∈ T) (hu : ∀ p ∈ T, p.1 = P → p.2 = X.env.qual ++ "<lambda>") (LS : LamS X.env.scope scope) (hdef : defaultsOf params X.env = ([], [])) :
    PE X (.Lambda params body scope pos) (tClo T ⟨X.env.qual ++ "<lambda>", params, body, scope⟩ X.env.cells) := by
  refine ⟨fun pins s σ H Q I ⟨hT, h⟩ => PySem.W.kla_eval hdef ?_⟩
  obtain ⟨ps, hP, ht, ha⟩ := hT _ hmT
  have bP : s.heap.BuiltinsAt X.mg P := TB.bm.keeps I.bk
  have hP' : s.heap.get? P = some { cls := .none, data := .fields ps } := I.hok P _ hP
  have hcl := closure_ok (LS.has I.ok)
  cases hc : codeAmong pos ps.toList with
  | none =>
    refine PySem.W.kla_makeFunction hcl I.ok.glob (I.mod.glob.keeps I.bk) hcode (TB.code.keeps I.bk) hP' ht hc TB.gP bP fun c' ctv h' tk hx hge hlt hrec htb => ?_
    obtain ⟨c2, oc, vs, t, e2, hoc, hd, hv⟩ := hrec
    cases e2
    have nC : H c' = none := I.hok.fresh hge
    have I1 := inv_table (t' := tk) (more := #[rawInt pos.line, rawInt pos.col, .ref c']) (h' := h') I hP (fun b o hb e => hx b o hb e) htb hge ⟨oc, vs, t, hoc, hd, hv⟩
    have I2 := inv_clo (F := ⟨X.env.qual ++ "<lambda>", params, body, scope⟩) (cl := cloFrom X.env.cells scope.names []) (c' := c') (pm := (X.mg "__name__").getD .none) (ctv := ctv) (t' := tk) I1
    have nF := I1.hok.fresh (Nat.le_refl h'.objs.size)
    have nFc : c' ≠ h'.objs.size := Nat.ne_of_lt hlt
    have x1 : ExtN H (upd (upd H P (.tbl (ps ++ #[rawInt pos.line, rawInt pos.col, .ref c']))) c' (CodeO c' (X.env.qual ++ "<lambda>"))) := fun b o e n => by
      rw [upd_ne (ne_of_none e nC), upd_ne (fun z => n ps (Option.some.inj (e.symm.trans (by rw [z]; exact hP))))]
      exact e
    have x2 : ∀ b o, (upd (upd H P (.tbl (ps ++ #[rawInt pos.line, rawInt pos.col, .ref c']))) c' (CodeO c' (X.env.qual ++ "<lambda>"))) b = some o → upd (upd (upd H P (.tbl (ps ++ #[rawInt pos.line, rawInt pos.col, .ref c']))) c' (CodeO c' (X.env.qual ++ "<lambda>"))) h'.objs.size (CloO h'.objs.size ⟨X.env.qual ++ "<lambda>", params, body, scope⟩ (cloFrom X.env.cells scope.names []) c') b = some o := fun b o e => by
      rw [upd_ne (ne_of_none e nF)]
      exact e
    have t1 : Tabs T (upd (upd H P (.tbl (ps ++ #[rawInt pos.line, rawInt pos.col, .ref c']))) c' (CodeO c' (X.env.qual ++ "<lambda>"))) := fun p hp => by
      have eL : (ps ++ #[rawInt pos.line, rawInt pos.col, .ref c']).toList = ps.toList ++ [rawInt pos.line, rawInt pos.col, .ref c'] := by simp
      by_cases hb : p.1 = P
      · rw [hu p hp hb, hb]
        refine ⟨_, by rw [upd_ne (ne_of_none hP nC), upd_same], by rw [eL]; exact PySem.TriplesOk_snoc _ _ _ _ ht, fun p' cv hcv => ?_⟩
        rw [eL] at hcv
        rcases among_app _ ht hcv with z | z
        · obtain ⟨c0, e1, e2⟩ := ha p' cv z
          exact ⟨c0, e1, x1 _ _ e2 codeO_ne⟩
        · exact ⟨c', z, upd_same⟩
      · obtain ⟨ps', a1, a2, a3⟩ := hT p hp
        refine ⟨ps', by rw [upd_ne (ne_of_none a1 nC), upd_ne hb]; exact a1, a2, fun p' cv hcv => ?_⟩
        obtain ⟨c0, e1, e2⟩ := a3 p' cv hcv
        exact ⟨c0, e1, x1 _ _ e2 codeO_ne⟩
    refine ⟨.ref h'.objs.size, _, I2, rfl, h h'.objs.size c' _ (x1.trans (ExtN.of x2)) (t1.ext x2) upd_same ?_⟩
    show upd _ h'.objs.size _ c' = _
    rw [upd_ne nFc, upd_same]
  | some cv =>
    obtain ⟨c', e, hco⟩ := ha pos cv hc
    subst e
    refine PySem.W.kla_makeFunctionHit hcl I.ok.glob (I.mod.glob.keeps I.bk) hcode (TB.code.keeps I.bk) hP' ht hc bP fun ctv h' tk hx hsz => ?_
    have I1 : Inv X pins σ H { s with heap := h', toks := tk } := I.kept fun b o e => hx b o e
    have I2 := inv_clo (F := ⟨X.env.qual ++ "<lambda>", params, body, scope⟩) (cl := cloFrom X.env.cells scope.names []) (c' := c') (pm := (X.mg "__name__").getD .none) (ctv := ctv) (t' := tk) I1
    have nF := I1.hok.fresh (Nat.le_refl h'.objs.size)
    have x2 : ∀ b o, H b = some o → upd H h'.objs.size (CloO h'.objs.size ⟨X.env.qual ++ "<lambda>", params, body, scope⟩ (cloFrom X.env.cells scope.names []) c') b = some o := fun b o e => by
      rw [upd_ne (ne_of_none e nF)]
      exact e
    exact ⟨.ref h'.objs.size, _, I2, rfl, h h'.objs.size c' _ (ExtN.of x2) (hT.ext x2) upd_same (x2 _ _ hco)⟩
end
section
variable {L : Lw} {X : Cx} {Wx : WX} {k : Nat} {c : Fn}
def xClo (j : Nat) (F : LF) (γ : List (Str × Addr)) : Fe := fun _ st => .ok (.ref st.length) (st ++ [Cell.clo j F γ])
theorem re_clo {j : Nat} {cA P : Addr} {params : Arguments} {body : Expr} {scope : Scope} {pos : Pos} (TB : TabB X.base X.mg cA P) (hcode : X.env.code = .ref cA) (hmT : (P, X.env.qual ++ "<lambda>") ∈ L.tabs) (hu : ∀ p ∈ L.tabs, p.1 = P → p.2 = X.env.qual ++ "<lambda>") (LS : LamS X.env.scope scope) (hdef : defaultsOf params X.env = ([], [])) :
    RE L X Wx (.Lambda params body scope pos) (xClo j ⟨X.env.qual ++ "<lambda>", params, body, scope⟩ X.env.cells) := by
  refine ⟨fun pins s σ H W st ρ Q I S E o => (pe_clo TB hcode hmT hu LS hdef).run pins s σ H Q I ⟨S.tb, fun f c' H1 e1 t1 hf hc => ?_⟩⟩
  obtain ⟨W1, l1, S1, f1, i1⟩ := (S.made e1 t1).know hf
  obtain ⟨W2, l2, S2, f2, i2⟩ := S1.know hc
  have S3 := S2.more (p := f) (j := j) ⟨c', l2.1 _ _ f1, f2⟩
  have hl : st.length = W2.io.length := S2.len
  exact o (W2.more f) H1 ((l1.trans l2).trans Wd.le_more) S3 _ (Rl.ref.mpr ⟨f, rfl, by show (W2.io ++ [f])[st.length]? = _; rw [hl, List.getElem?_concat_length]⟩)
end
end Gm
namespace Gm
open PySem PySem.Spec PyProof.Rows L2 LamX
section
variable {X : Cx} {pins : List (Addr × Obj)} {σ : L2.St} {H : Hp} {s : Shared}
theorem pe_actT {CXg : CXT} {Eg : XK} {Ng : List Str} {qg : Str} {sg : Scope} {g f c' : Addr} {cdg : Value} {F : LF} {k i : Nat} {a : Str} {pn : List (Addr × Obj)} {xe : Value → Shared → Prop} {W : WX} {E : XK} {tb : TE} {p1 p2 : Pos}
    (I : Inv X pins σ H s) (LS : LamS X.env.scope F.scope) (hq : F.qual = X.env.qual ++ "<lambda>")
    (hbind : ∀ (q : Str) (cl : List (Str × Addr)) (pm cv ctv : Value), bindArgs (PySem.W.kla_fn "<lambda>" q F.params F.body F.scope cl pm cv ctv) ⟨[], []⟩ = pure [])
    (tk : Takes ((cxOf CXg X.prog X.w X.K X.mg X.base Ng qg sg g cdg X.A X.stack s H Eg).tr pn xe) W) (hW : ∀ cls d σ' H', E cls d H' → W cls d σ' H') (hr : Room (k + 1) (X.A.deeper (envOfC qg sg s.heap.objs.size g cdg)))
    (hbody : ∀ (A : Around) (outer : List Env) (s : Shared) (H : Hp), Room k (A.deeper (lamEnv X F.scope s.heap.objs.size f c')) → PE (lamCx X A outer s H E F.scope f c') F.body tb)
    (hN : Ng[i]? = some a) (hv : Vis sg a) (hd : (a == ("__debug__" : Str)) = false) (hcd : (a == ("__classdict__" : Str)) = false) :
    PE ((cxOf CXg X.prog X.w X.K X.mg X.base Ng qg sg g cdg X.A X.stack s H Eg).tr pn xe) (.Call (.Name a p1) [] [] p2)
      (fun σZ HZ Q => σZ[i]? = some (some (.ref f)) ∧ HZ c' = some (CodeO c' (X.env.qual ++ "<lambda>")) ∧ (HZ f = some (CloO f F (cloFrom X.env.cells F.scope.names []) c') ∧ tb σ HZ Q)) := by
  obtain ⟨q, params, body, scope⟩ := F
  dsimp only at LS hq hbind hbody
  subst hq
  refine ⟨fun pinsZ sZ σZ HZ Q IZ ⟨hs, hc, hfz, ht⟩ => ?_⟩
  refine wpAny_Call_Name_kw (thn ((pe_var (pos := p1) (i := i) hN hv hd hcd).run pinsZ sZ σZ HZ (fun v H1 => v = .ref f ∧ H1 = HZ) IZ ⟨.ref f, hs, rfl, rfl⟩) fun u s1 hu => ?_)
  obtain ⟨v, H1, I1, r1, ev, eH⟩ := hu
  subst ev
  rw [eH] at I1
  obtain rfl : u = Value.ref f := r1
  obtain ⟨pm, ctv, of1⟩ := cloO_at I1.hok hfz
  refine PySem.W.callWith_F0 ⟨_, _, _, _, of1⟩ ?_
  have un : Un (frs X.stack) [] H HZ s.heap s1.heap := I1.base
  obtain ⟨⟨oc, vs, t, hoc, hdc, hvc⟩, _, _⟩ := I1.hok c' _ hc
  have rc : codeAny (model X.prog X.w) (X.A.deeper (envOfC qg sg s.heap.objs.size g cdg)) (.call (.ref f) ⟨[], []⟩) (CR (L2.CX X.prog X.w) (envOfC qg sg s.heap.objs.size g cdg :: X.stack) X.prog X.w HZ s1 Q E) s1 := by
    refine PySem.W.kla_callFunE hr.depth of1 rfl LS.co LS.gen rfl ⟨c', oc, vs, t, rfl, hoc, hdc, hvc⟩ ?_
    rw [hbind]
    refine wpAny_pure (wpAny_newFunctionEnv (fun y hy => (LS.own y hy).2) (fun y hy => absurd hy (by simp)) (fun h₁ hns hsb => ⟨I1.nolimit.fresh _ hsb, ?_⟩) LS.kind)
    have kp : ∀ b o, s1.heap.get? b = some o → h₁.get? b = some o := fun b o e => hsb.extBut b o (Nat.ne_of_lt (Heap.lt_size e)) (Heap.get?_push_of_some _ e)
    have J : Inv (lamCx X (X.A.deeper (envOfC qg sg s.heap.objs.size g cdg)) (envOfC qg sg s.heap.objs.size g cdg :: X.stack) s1 HZ E scope f c') [] σ HZ { s1 with heap := h₁, toks := s1.toks + ([] : List (Str × Value)).length } := lam_start2 I LS I1.env0 hr.hd un hns kp
    show codeAny _ _ (.expr body (lamEnv X scope s1.heap.objs.size f c')) _ _
    refine PySem.W.kla_codeExpr (wpAny_mono ((hbody _ _ s1 HZ (hr.deeper _)).run [] _ _ HZ Q J ht) (fun v s' hq => ?_) fun e s' hq => hq)
    obtain ⟨w', H', J', rv, q⟩ := hq
    exact ⟨w', H', J'.os, J'.bare, J'.base, J'.hok, rv, q⟩
  have hx : Passes (L2.CX X.prog X.w) ((cxOf CXg X.prog X.w X.K X.mg X.base Ng qg sg g cdg X.A X.stack s H Eg).tr pn xe) E := passes_call tk hW
  refine wpAny_call (codeAny_mono rc fun r s' hq => ?_)
  cases r with
  | error e => exact hx pinsZ σZ HZ s1 e s' I1 hq
  | ok fl =>
    cases fl with
    | ret u => exact I1.after hq
    | next => exact False.elim hq
    | brk => exact False.elim hq
    | cont => exact False.elim hq
theorem lam_run {TT : (XK → Hp → VK → Prop) → Hp → VK → Prop} {x a : Str} {g f c' : Addr} {F : LF} {k : Nat} {pg : Arguments} {bg : List Stmt} {sg : Scope} {dV kV doc pm cdv ct oc : Value} {an od : Option Addr} {osl : Array (Option Value)} {Ng : List Str} {t : XK → TE} {Q : VK}
    (I : Inv X pins σ H s) (lk : X.K.lookup g = some ⟨oc, od, .func (PySem.W.fnOf x x pg bg sg dV kV doc pm an cdv ct), osl⟩) (hcg : PySem.W.codeIn X.K cdv x = true) (hb : L2.Binds X.K (PySem.W.fnOf x x pg bg sg dV kV doc pm an cdv ct) [a] []) (Sg : FnScope Ng [a] sg) (hNg : Ng[0]? = some a) (hva : Vis sg a)
    (hG : GivesTo X Ng x sg g cdv bg a (X.env.qual ++ "<lambda>") TT) (hr : Room (k + 2) X.A) (LS : LamS X.env.scope F.scope) (hq : F.qual = X.env.qual ++ "<lambda>")
    (hbind : ∀ (q : Str) (cl : List (Str × Addr)) (pm cv ctv : Value), bindArgs (PySem.W.kla_fn "<lambda>" q F.params F.body F.scope cl pm cv ctv) ⟨[], []⟩ = pure [])
    (hbody : ∀ (A : Around) (outer : List Env) (s : Shared) (H : Hp) (E : XK) (f c' : Addr), Room k (A.deeper (lamEnv X F.scope s.heap.objs.size f c')) → PE (lamCx X A outer s H E F.scope f c') F.body (t E))
    (hd : (a == ("__debug__" : Str)) = false) (hcd : (a == ("__classdict__" : Str)) = false) (hc : H c' = some (CodeO c' (X.env.qual ++ "<lambda>"))) (h : TT (fun E H' Q' => H' f = some (CloO f F (cloFrom X.env.cells F.scope.names []) c') ∧ t E σ H' Q') H Q) :
    codeAny (model X.prog X.w) X.A (.call (.ref g) ⟨[.ref f], []⟩) (CR C8.CX0 X.stack X.prog X.w H s Q C8.E0) s := by
  refine run_ofS (N := Ng) (ps := [a]) (us := [.ref f]) (vs := [.ref f]) lk hcg Sg hr I.env0 (hb s [.ref f] I.kIn rfl) (.cons rfl .nil) rfl fun hr' => ?_
  obtain ⟨t', ht', hq'⟩ := hG f c' s H Q (fun E H' Q' => H' f = some (CloO f F (cloFrom X.env.cells F.scope.names []) c') ∧ t E σ H' Q') (fun W pn xe E p1 p2 tk hW => pe_actT (i := 0) I LS hq hbind tk hW hr' (fun A outer s H hr2 => hbody A outer s H E f c' hr2) hNg hva hd hcd) hc h
  exact ⟨t', ht'.nox, hq'⟩
end
theorem BsOk.get {L : Lw} {X : Cx} {k : Nat} {c : Fn} : ∀ {bs : List (LF × Fe)} {j : Nat} {F : LF} {f : Fe}, BsOk L X k c bs → bs[j]? = some (F, f) → BodyOk L X k c F f
  | [], j, F, f, _, h => by simp at h
  | _ :: _, 0, F, f, .cons b _, h => by
    simp at h
    obtain ⟨rfl, rfl⟩ := h
    exact b
  | _ :: _, j + 1, F, f, .cons _ bs, h => bs.get (by simpa using h)
open Classical in
noncomputable def xLamV (hs : List Hc) (d0 : D) (bs : List (LF × Fe)) (γ : List (Str × Addr)) (vs : List Nat) (fe : Fe) : Fe := fun ρ st => (fe ρ st).bind fun d st => match d with
  | .ref m => match st[m]? with
    | some (.clo j F γ') => match bs[j]? with
      | some p => if p.1 = F ∧ γ' = γ then xLam hs d0 p.2 (wipeE ρ vs) st else .stuck
      | none => .stuck
    | _ => .stuck
  | _ => .stuck
section
variable {L : Lw} {X : Cx} {Wx : WX} {k : Nat} {c : Fn}
end
end Gm
namespace Gm
open PySem PySem.Spec PyProof.Rows L2 LamX
section
variable {X : Cx}
theorem lc_coreI {pins : List (Addr × Obj)} {s : Shared} {σ : L2.St} {H : Hp} {Q : VK} {elt tg iter : Expr} {ifs : List Expr} {scope : Scope} {own : List (Str × Nat)} {pos pos' : Pos} {wi : TI} {g : TG} {tt : TT} {te : TE} {use : Option (Value → Sem Unit)} {Qf : Value → Shared → Prop}
    (hc : X.calm = true) (hN : X.N.Nodup) (I : Inv X pins σ H s) (hi : PI X tg iter wi) (ok : BlkOk X.N X.env.scope scope own)
    (hg : ∀ (s : Shared) (H : Hp) (C : Addr) (cl : List (Str × Addr)) (fp : List Addr), PG (X.blk s H scope (compEnvC scope cl C X.env) fp) tg g)
    (ht : ∀ (s : Shared) (H : Hp) (C : Addr) (cl : List (Str × Addr)) (fp : List Addr), PTI X pins σ (X.blk s H scope (compEnvC scope cl C X.env) fp) (own.map (·.2)) ifs tt)
    (he : ∀ (s : Shared) (H : Hp) (C : Addr) (cl : List (Str × Addr)) (fp : List Addr), PEI X pins σ (X.blk s H scope (compEnvC scope cl C X.env) fp) (own.map (·.2)) elt te) (hs : ∀ x, foldedSetIterable iter X.env x = pure x)
    (h : tLc wi g tt te (own.map (·.2)) σ H Q)
    (fin : ∀ D C s' m H', Inv X pins σ H' s' → Q (.ref D) H' → s'.heap.Ns C m → FpOk X pins H' C → compPost (model X.prog X.w) X.A X.xe use Qf (.ref D) C (.ok .next) s') :
    wpAny (model X.prog X.w) X.A (comprehension (.ListComp elt [⟨tg, iter, ifs, 0⟩] scope pos) scope X.env pos' (newList []) false (eval iter X.env) use) Qf X.xe s := by
  have cells : ∀ y ∈ scope.names, y.2 = .free → ∃ c, X.env.cells.lookup y.1 = some c := fun y hy e =>
    (ok.free y hy e).elim (fun k => I.ok.has _ (.inl k)) (fun k => I.ok.has _ (.inr k))
  refine wpAny_comprehension_free (use := use) rfl hs (closure_ok cells) ok.kind (fun y hy e => by rw [ok.uniq y hy, e]) (thn (hi.run pins s σ H _ I h) fun xv s1 hx => thn hx fun itv s2 h2 => ?_)
  obtain ⟨it, fp, tn, J, H2, e, I2, T, st2, f2, q⟩ := h2
  subst e
  refine wpAny_newObj_type (newEnv_comp ?_) (by show 0 ≤ sizeLine; decide)
  -- the list that is made
  have nD : H2 s2.heap.objs.size = none := I2.hok.fresh (Nat.le_refl _)
  obtain ⟨W, ⟨m0, w0⟩, turn⟩ := q s2.heap.objs.size nD
  have kp3 : ∀ b o, s2.heap.get? b = some o → (s2.heap.push { cls := .type "list", data := .seq ([] : List Value).toArray }).get? b = some o := fun b o e => Heap.get?_push_of_some _ e
  have I3 : Inv X pins σ (upd H2 s2.heap.objs.size (.lst [])) { s2 with heap := s2.heap.push { cls := .type "list", data := .seq ([] : List Value).toArray } } :=
    I2.laid (t' := s2.toks) kp3 (Nat.le_refl _) ⟨Nat.zero_le _, [], 0, .nil, Heap.get?_push_size _ rfl⟩
  have sz : ∀ b ∈ fp, b < s2.heap.objs.size := fun b hb => by
    obtain ⟨o, e, _⟩ := T.obj _ _ st2 b hb
    exact Heap.lt_size e
  have f3 : ∀ b ∈ fp, FpOk X pins (upd H2 s2.heap.objs.size (.lst [])) b ∧ b < (s2.heap.push ({ cls := .type "list", data := .seq ([] : List Value).toArray } : Obj)).objs.size := fun b hb =>
    ⟨⟨by rw [upd_ne (Nat.ne_of_lt (sz b hb))]; exact (f2 b hb).1, (f2 b hb).2⟩, by rw [Heap.size_push]; exact Nat.lt_succ_of_lt (sz b hb)⟩
  have st3 := T.keep _ _ _ st2 fun b _ o e => kp3 b o e
  generalize s2.heap.push ({ cls := .type "list", data := .seq ([] : List Value).toArray } : Obj) = h3 at I3 f3 st3 ⊢
  generalize s2.heap.objs.size = D at I3 f3 nD w0 turn ⊢
  generalize upd H2 D (.lst []) = H3 at I3 f3 w0
  generalize hs3 : ({ s2 with heap := h3 } : Shared) = s3 at I3 ⊢
  have e3 : s3.heap = h3 := by rw [← hs3]
  subst e3
  have I4 := block_start I3 ok hN f3
  have pg := hg s3 H3 s3.heap.objs.size (cellsFrom (s3.heap.objs.size + 1) scope.names (cloFrom X.env.cells scope.names [])) fp
  have pt := ht s3 H3 s3.heap.objs.size (cellsFrom (s3.heap.objs.size + 1) scope.names (cloFrom X.env.cells scope.names [])) fp
  have pe := he s3 H3 s3.heap.objs.size (cellsFrom (s3.heap.objs.size + 1) scope.names (cloFrom X.env.cells scope.names [])) fp
  show codeAny _ _ (.compStart (.ListComp elt [⟨tg, iter, ifs, 0⟩] scope pos) 0 (.ref it) (.ref D) (compEnvC scope (cellsFrom (s3.heap.objs.size + 1) scope.names (cloFrom X.env.cells scope.names [])) s3.heap.objs.size X.env)) (compPost (model X.prog X.w) X.A X.xe use Qf (.ref D) s3.heap.objs.size) { s3 with heap := pushCells (s3.heap.push { cls := .type "dict", data := .dict #[] }) scope.names }
  generalize hce : compEnvC scope (cellsFrom (s3.heap.objs.size + 1) scope.names (cloFrom X.env.cells scope.names [])) s3.heap.objs.size X.env = ce at I4 pg pt pe ⊢
  have cL : ce.locals = s3.heap.objs.size := by subst hce; rfl
  have st4 : tn 0 (pushCells (s3.heap.push { cls := .type "dict", data := .dict #[] }) scope.names) := T.keep _ _ _ st3 fun b _ o e => pushCells_keeps _ _ _ _ (Heap.get?_push_of_some _ e)
  generalize hs4 : ({ s3 with heap := pushCells (s3.heap.push { cls := .type "dict", data := .dict #[] }) scope.names } : Shared) = s4 at I4 ⊢
  have e4 : pushCells (s3.heap.push ({ cls := .type "dict", data := .dict #[] } : Obj)) scope.names = s4.heap := by rw [← hs4]
  rw [e4] at st4
  -- the frame's own state, at any time
  have back : ∀ pins' σ' H' s', Inv (X.blk s3 H3 scope ce fp) pins' σ' H' s' → Inv X pins σ H' s' := fun pins' σ' H' s' J => I3.call' (ch := fp) J.os J.base J.hok J.bare fun b hb => ⟨(f3 b hb).1.2.2.2.1, (f3 b hb).1.2.1, (f3 b hb).1.2.2.2.2.1, (f3 b hb).1.2.2.2.2.2⟩
  have stat : ∀ {σ' : L2.St} {H' : Hp} {s' : Shared}, Inv (X.blk s3 H3 scope ce fp) [] σ' H' s' → (∀ b ∈ fp, H' b = none) → ∀ b ∈ fp, FpOk (X.blk s3 H3 scope ce fp) [] H' b := fun {σ' H' s'} J hn b hb =>
    ⟨hn b hb, (J.ok.exf b hb).1, J.ok.exfs b hb, .inl hb, fun x c e => (J.ok.exf b hb).2 x c e, fun p hp => absurd (show p ∈ ([] : List (Addr × Obj)) ++ [] from hp) (by simp)⟩
  have loop : codeAny (model X.prog X.w) X.A (.compLoop (.ListComp elt [⟨tg, iter, ifs, 0⟩] scope pos) 0 (.ref it) (.ref D) ce) (compPost (model X.prog X.w) X.A X.xe use Qf (.ref D) s3.heap.objs.size) s4 := by
    refine compLoop_any (fun n s' => ∃ i H', Inv (X.blk s3 H3 scope ce fp) [] (wipe σ (own.map (·.2))) H' s' ∧ tn i s'.heap ∧ (∀ b ∈ fp, H' b = none) ∧ W i n H') ?_ m0 ⟨0, H3, I4, st4, fun b hb => (f3 b hb).1.1, w0⟩
    rintro n s5 ⟨i, H5, I5, st5, n5, w5⟩
    rcases turn i n H5 w5 with ⟨stop, qq⟩ | ⟨go, Nx, hNx, step⟩
    · refine thnF (T.done (X.blk s3 H3 scope ce fp) rfl rfl rfl hc i [] s5 _ H5 (fun _ _ => False) I5 (stat I5 n5) st5 stop) fun r s6 ⟨hr, I6⟩ => ?_
      subst hr
      have nC : H5 s3.heap.objs.size = none := cL ▸ (show H5 ce.locals = none from I6.free)
      obtain ⟨m, hn, _⟩ := I6.loc
      have hn : s6.heap.Ns ce.locals m := hn
      rw [cL] at hn
      exact fin D s3.heap.objs.size s6 m H5 (back _ _ _ _ I6) qq hn (I3.fpOk (Nat.le_refl _) nC)
    · refine thnF (T.item (X.blk s3 H3 scope ce fp) rfl rfl rfl hc i [] s5 _ H5 (fun _ _ => False) I5 (stat I5 n5) st5 go) fun r s6 ⟨u, hr, h6⟩ => ?_
      subst hr
      refine thnF h6 fun _ s7 ⟨x, H7, I7, r7, y7, st7, n7⟩ => ?_
      have I7' := I7.pinned (stat I7 n7) (T.obj _ _ st7)
      refine thnF (pg.run _ s7 _ H7 x u _ I7' r7 (step x H7 y7)) fun _ s8 ⟨σ8, H8, I8, hw8, q8⟩ => ?_
      refine thnF (pt.run _ s8 σ8 H8 _ I8 back hw8 q8) fun b s9 ⟨H9, I9, q9⟩ => ?_
      have next : ∀ {s' : Shared} {H' : Hp}, Inv (X.blk s3 H3 scope ce fp) ([] ++ pinsAt fp s7.heap) σ8 H' s' → Nx H' → ∃ m, m < n ∧ ∃ i H', Inv (X.blk s3 H3 scope ce fp) [] (wipe σ (own.map (·.2))) H' s' ∧ tn i s'.heap ∧ (∀ b ∈ fp, H' b = none) ∧ W i m H' := fun {s' H'} J nx => by
        obtain ⟨m', hm, w'⟩ := hNx H' nx
        have pin' : ∀ b ∈ fp, ∀ o, s7.heap.get? b = some o → s'.heap.get? b = some o ∧ H' b = none := fun b hb o e =>
          let z := J.pin (b, o) (List.mem_append_right _ (List.mem_append_right _ (mem_pinsAt hb e)))
          ⟨z.1, z.2.1⟩
        refine ⟨m', hm, i + 1, H', (J.unpinned (pins := [])).weak (by rw [← hw8, wipe_length]) (fun j v e => ?_), T.keep _ _ _ st7 fun b hb o e => (pin' b hb o e).1, fun b hb => ?_, w'⟩
        · rw [← hw8] at e
          exact (L2.wipe_some e).1
        · obtain ⟨o, e, _⟩ := T.obj _ _ st7 b hb
          exact (pin' b hb o e).2
      cases b with
      | false =>
        simp only [Bool.false_eq_true, if_false] at q9 ⊢
        exact next I9 q9
      | true =>
        simp only [if_true] at q9 ⊢
        refine thnF (pe.run _ s9 σ8 H9 _ I9 back hw8 q9) fun z s10 ⟨yv, H10, I10, r10, acc, hD10, hz10, nx⟩ => ?_
        exact app_ok (X := X.blk s3 H3 scope ce fp) I10 hD10 hz10 r10 fun s11 I11 => next I11 nx
  exact codeAny_compStart_list loop (T.self X.A 0 _ _ _ st4 loop)
end
section
variable {L : Lw} {X : Cx} {Wx : WX} {k : Nat} {c : Fn}
theorem rti_of {pins0 : List (Addr × Obj)} {σ0 : L2.St} {s : Shared} {H : Hp} {scope : Scope} {cenv : Env} {fp : List Addr} {own : List Nat} {ifs : List Expr} {f : Ft} (h : RTs L (X.blk s H scope cenv fp) W0 ifs f) : RTI L X pins0 σ0 (X.blk s H scope cenv fp) own ifs f :=
  ⟨⟨fun pins s σ H Q I _ _ t => h.pts.run pins s σ H Q I t⟩⟩
theorem re_lcI {elt tg iter : Expr} {ifs : List Expr} {scope : Scope} {own : List (Str × Nat)} {pos : Pos} {fi : Fi} {g : Fg} {t : Ft} {f : Fe} {ts : List Nat} (G : Gd L X Wx k c) (hi : RI L X Wx tg iter fi) (ok : BlkOk X.N X.env.scope scope own)
    (hg : ∀ (s : Shared) (H : Hp) (C : Addr) (cl : List (Str × Addr)) (fp : List Addr), RG L (X.blk s H scope (compEnvC scope cl C X.env) fp) tg g ts)
    (ht : ∀ (pins0 : List (Addr × Obj)) (σ0 : L2.St) (s : Shared) (H : Hp) (C : Addr) (cl : List (Str × Addr)) (fp : List Addr), RTI L X pins0 σ0 (X.blk s H scope (compEnvC scope cl C X.env) fp) (own.map (·.2)) ifs t)
    (he : ∀ (pins0 : List (Addr × Obj)) (σ0 : L2.St) (s : Shared) (H : Hp) (C : Addr) (cl : List (Str × Addr)) (fp : List Addr), REI L X pins0 σ0 (X.blk s H scope (compEnvC scope cl C X.env) fp) (own.map (·.2)) elt f)
    (hts : ∀ i ∈ ts, i ∈ own.map (·.2)) (hs : ∀ x, foldedSetIterable iter X.env x = pure x := by intro _; rfl) :
    RE L X Wx (.ListComp elt [⟨tg, iter, ifs, 0⟩] scope pos) (xLc fi g t f (own.map (·.2))) := by
  refine ⟨fun pins s σ H W st ρ Q I S E o => ?_⟩
  rw [eval_ListComp]
  refine lc_coreI (wi := tiOf L X.K Wx fi) (g := tgOf L X.K g ts) (tt := ttOf L X.K W0 t) (te := teOf L X.K W0 f) G.calm G.nd I hi.pi ok (fun s H C cl fp => (hg s H C cl fp).pg) (fun s H C cl fp => (ht pins σ s H C cl fp).pt) (fun s H C cl fp => (he pins σ s H C cl fp).pe) hs (lc_term hts S E o) fun D C s' m H' I' q hn f => ⟨m, hn, fun h'' sb => ?_⟩
  obtain ⟨f0, f1, f2, f3, f4, f5⟩ := f
  exact ⟨.ref D, H', I'.turned (t' := s'.toks) (fun b o hb e => (sb.2 b hb).trans e) f0 f1 f3 f4 f5, rfl, q⟩
end
end Gm
namespace Gm
open PySem PySem.Spec PyProof.Rows L2 LamX
open Classical in
noncomputable def fnG (n : Nat) (b : List (Str × Addr) → Fs) : List D → Store → Res D := fun ds st => if ∀ γ, fnD n (b γ) ds st = fnD n (b []) ds st then fnD n (b []) ds st else .stuck
theorem fnG_of {n : Nat} {b : List (Str × Addr) → Fs} {ds : List D} {st : Store} {r : Res D} (h : ∀ γ, fnD n (b γ) ds st = r) : fnG n b ds st = r := by
  unfold fnG
  rw [if_pos (fun γ => (h γ).trans (h []).symm)]
  exact h []
section
variable {P : Program} {w : World} {K : PySem.W.Frag} {mg : Str → Option Value} {base : Heap} {L : Lw}
end
def pE : List Nat → Expr → Expr
  | [], e => e
  | 0 :: r, .Call f _ _ _ => pE r f
  | (i + 1) :: r, .Call f as _ _ => pE r (as.getD i f)
  | i :: r, .List es _ => pE r (es.getD i default)
  | i :: r, .Tuple es _ _ => pE r (es.getD i default)
  | 0 :: r, .BinOp a _ _ _ => pE r a
  | _ :: r, .BinOp _ _ b _ => pE r b
  | _ :: r, .Subscript a _ _ => pE r a
  | _ :: _, e => e
def pX : Stmt → Expr
  | .Assign _ v _ => v
  | .Expr v _ => v
  | .Return (some v) _ => v
  | .AugAssign _ _ v _ => v
  | .For _ it _ _ _ => it
  | _ => default
def pSs : List Nat → List Stmt → Stmt
  | [i], ss => ss.getD i default
  | i :: 0 :: r, ss => (match ss.getD i default with
    | .For _ _ b _ _ => pSs r b
    | .If _ b _ _ => pSs r b
    | .While _ b _ _ => pSs r b
    | s => s)
  | i :: _ :: r, ss => (match ss.getD i default with
    | .For _ _ _ b _ => pSs r b
    | .If _ _ b _ => pSs r b
    | .While _ _ b _ => pSs r b
    | s => s)
  | [], _ => default
def lfOf (q : Str) : Expr → LF
  | .Lambda ps b s _ => ⟨q, ps, b, s⟩
  | e => ⟨q, default, e, default⟩
section
variable {L : Lw} {X : Cx} {Wx : WX} {k : Nat} {c : Fn} {x : Str} {e1 e2 e3 : Expr} {p pos pos2 : Pos}
end
end Gm
namespace Gm
open PySem PySem.Spec PyProof.Rows L2
section
variable {L : Lw} {X : Cx} {Wx : WX} {k : Nat} {c : Fn}
end
end Gm
namespace Gm
open PySem PySem.Spec PyProof.Rows L2 LamX
section
variable {L : Lw} {X : Cx} {Ng : List Str} {x a q : Str} {sg : Scope} {g : Addr} {cdg : Value} {hs : List Hc} {h₀ : ExceptHandler} {hds : List ExceptHandler} {p1 p2 pe pt : Pos}
end
section
variable {L : Lw} {X : Cx} {Wx : WX} {k : Nat} {c : Fn}
end
end Gm
namespace Gm
open PySem PySem.Spec PyProof.Rows L2
section
variable {L : Lw} {X : Cx} {Wx : WX} {k : Nat} {c : Fn} {p pos apos : Pos} {e o : Expr}
end
end Gm
namespace Gm
open PySem PySem.Spec PyProof.Rows L2
section
open PySem PySem.SeqAt
open MeetsSeq MeetsSeq2 MeetsSeq3 SeqRoads2 GQ
variable {prog : Program} {w : World} {A : Around} {R : Result → Shared → Prop}
end
section
open PySem PySem.Spec MeetsSeq SeqRoads2
variable {prog : Program} {w : World} {A : Around} {E : Value → Shared → Prop} {s : Shared}
end
section
variable {L : Lw} {X : Cx} {Wx : WX} {k : Nat} {c : Fn}
end
end Gm
namespace Gm
open PySem PySem.Spec PyProof.Rows L2 LamX
section
variable (K : PySem.W.Frag) (cs : List (Addr × Addr)) (a : Addr) (ob : Obj) (xs : List V)
end
section
variable {P : Program} {w : World} {K : PySem.W.Frag} {mg mb : Str → Option Value} {CX : CXT} {Ar : Around → Prop} {f a : Addr} {cs : List (Addr × Addr)} {fd : FuncData} {x : Str} {sp : Sp} {s : Shared} {us : List Value} {ns : List Int}
section
variable (Z : LawSt K mg mb cs a us s) (xs : List V)
include Z
theorem LawSt.aout : a ∉ cs.map (·.2) := fun h => by
  have h1 := Z.tabs h
  rw [Z.scr] at h1
  cases congrArg Obj.data (Option.some.inj h1)
theorem LawSt.tabB {q : Addr × Addr} (hq : q ∈ cs) : TabB (hidT s.heap (hpL K cs a (lObj us) xs)) mg q.1 q.2 := by
  obtain ⟨og, es, n, eg, dg, _⟩ := Z.main
  have ng : q.2 ≠ mainGlobals := fun z => by
    rw [← z, Z.tab q hq] at eg
    cases eg
    cases dg
  obtain ⟨m, o, m1, m2, m3, m4, m5, m6⟩ := Z.modl
  have mo := hidT_get m3 (Z.off xs m3 (fun _ _ z => by rw [m6] at z; cases z) fun z => by rw [m6] at z; cases z)
  refine ⟨?_, ⟨m, o, m1, m2, fun z => ?_, fun z => ?_, mo, m4, m5, m6⟩, fun z => ng z.symm⟩
  · obtain ⟨oc, vs, fi, tf, fl, tg, iF, tx, tt, e, r0, r1, r2, r⟩ := Z.code q hq
    refine ⟨oc, vs, fi, tf, fl, tg, iF, tx, tt, hidT_get e (Z.off xs e (fun _ _ z => ?_) fun z => ?_), r0, r1, r2, r⟩
    · rw [r1] at z; cases z
    · rw [r1] at z
      cases z
      have := r2
      simp at this
  · rw [z, eg] at m3
    cases m3
    rw [dg] at m6
    cases m6
  · rw [z, Z.tab q hq] at m3
    cases m3
    cases m6
theorem LawSt.sq (hv : Vals xs us) (hz : xs.length ≤ sizeLine) : SqL K (hpL K cs a (lObj us) xs) a xs := by
  rcases hpL_at K cs a (lObj us) xs a with ⟨h, _⟩ | ⟨_, _, _, h⟩ | ⟨h, h'⟩
  · exact (Z.aout h).elim
  · exact .inl (.inr ⟨_, h⟩)
  · cases hk : K.lookup a with
    | none =>
      exfalso
      unfold hpL at h'
      rw [if_neg h, if_pos ⟨rfl, hk⟩] at h'
      cases h'
    | some o =>
      have e := Z.kin a o hk
      rw [Z.scr] at e
      cases e
      exact .inr ⟨_, us.toArray, _, hk, rfl, rfl, rfl, by rw [List.size_toArray, ← hv.length]; exact hz, by simpa using hv⟩
end
theorem law_callP (Z : LawSt K mg mb cs a us s) (hi : IntsAre us ns) (hl : ns.length ≤ sizeLine) (hA : Ar callerA) (hbind : ∀ (st : Shared) (u : Value), BindsTo st fd ⟨[u], []⟩ [(x, u)])
    (F : ∀ bs : Heap, K.In bs → bs.Ns mainGlobals mg → (∀ q ∈ cs, TabB bs mg q.1 q.2) → FnP Ar P w K mg bs CX f fd [x] sp)
    (hsp : ∀ H : Hp, (∀ q ∈ cs, H q.2 = some (.tbl #[])) → SqL K H a (ns.map V.int) → sp [.ref a] H (fun v _ => v = .bl true) fun _ _ _ => False) (hno : ∀ H e s', CX [] H s (fun _ _ _ => False) e s' → False) :
    codeAny (model P w) callerA (.call (.ref f) ⟨[.ref a], []⟩) (fun r s' => r = .ok (.ret (.bool true)) ∧ OldK s.heap s'.heap ∧ s'.os = s.os ∧ AllBare s'.gens) s := by
  have hv : Vals (ns.map V.int) us := vals_ints hi
  have hz : (ns.map V.int).length ≤ sizeLine := by rw [List.length_map]; exact hl
  have hok := Z.hok (P := P) (w := w) _ hv hz
  have run := (F _ (Z.kinL _) (Z.nsp _ Z.main) fun q hq => Z.tabB _ hq).run callerA [] s _ ⟨[.ref a], []⟩ [.ref a] [.ref a] _ _ hA (Z.env0 (ns.map V.int) hok) (hbind s (.ref a)) (.cons rfl .nil)
    (hsp _ (fun q hq => (hpL_at K cs a (lObj us) (ns.map V.int) q.2).elim (·.2) fun z => z.elim (fun z => absurd (List.mem_map.mpr ⟨q, hq, rfl⟩) z.1) fun z => absurd (List.mem_map.mpr ⟨q, hq, rfl⟩) z.1) (Z.sq _ hv hz))
  refine codeAny_mono run fun r s' h => ?_
  cases r with
  | error e => exact (hno _ e s' h).elim
  | ok fl =>
    cases fl with
    | ret u =>
      obtain ⟨v, H', os, bare, un, hok', rv, rfl⟩ := h
      obtain rfl : u = Value.bool true := rv
      exact ⟨rfl, Z.old _ un hok', os, bare⟩
    | _ => exact False.elim h
end
theorem walk_ofP {l : PySem.W.OpenLaw} {n : Nat} {q : Program} {loose : List Str} {XP : (Str → Option Value) → Heap → Prop} {YP : World → Heap → Prop} {d : DefRec} {CX : World → CXT} {x : Str} {t : Tb} {Ar : Around → Prop}
    (hn : l.most = some n) (hn2 : n ≤ sizeLine) (hdf : d.params.defaults = []) (hA : Ar callerA)
    (F : ∀ (w : World) (mg : Str → Option Value) (fa : Addr) (h : Heap), YP w h → h.Ns mainGlobals mg → mg d.name = some (.ref fa) →
      ∃ (K : PySem.W.Frag) (fd : FuncData) (sp : Sp), K.In h ∧ (∀ p ∈ csOf t K, h.get? p.2 = some tObj) ∧ (∀ p ∈ csOf t K, K.lookup p.2 = none) ∧ (∀ p ∈ csOf t K, PySem.W.codeHdIn K p.1 p.2 = true) ∧ (∀ (s : Shared) (u : Value), BindsTo s fd ⟨[u], []⟩ [(x, u)]) ∧
        (∀ (H : Hp) (a : Addr) (ns : List Int), ns.length ≤ n → (∀ z ∈ ns, Builtin.Int.intBits z ≤ 1048576) → (∀ p ∈ csOf t K, H p.2 = some (.tbl #[])) → SqL K H a (ns.map V.int) → sp [.ref a] H (fun v _ => v = .bl true) fun _ _ _ => False) ∧
        ∀ base : Heap, K.In base → base.Ns mainGlobals mg → (∀ p ∈ csOf t K, LamX.TabB base mg p.1 p.2) → FnP Ar l.prog w K mg base (CX w) fa fd [x] sp)
    (hCX : ∀ (w : World) (H : Hp) (s : Shared) (e : Value) (s' : Shared), CX w [] H s (fun _ _ _ => False) e s' → False) :
    PySem.W.WalkO q loose XP YP l.row.toRowW d [] (fun f vs => PySem.call f vs) := by
  refine Att.attach_callB hn hdf fun w s0 s mg mb fa o pm cd doc a us ns G Y ho hd hcd hmg hobj hints hlen hbits hg => ?_
  obtain ⟨K, fd, sp, KX, h1, h2, h3, hb, hsp, hF⟩ := F w mg fa _ Y G.T.g hmg
  exact law_callP (cs := csOf t K) ⟨KX, G.T.g, G.T.b, G.T.builtins, G.T.nolimit, hg, h1, h2, fun p hp => PySem.W.codeHd_of_K KX (h3 p hp), G.T.bmain, hobj⟩ hints (Nat.le_trans hlen hn2) hA hb hF (fun H hH hS => hsp H a ns hlen hbits hH hS) fun H e s' => hCX w H s e s'
end Gm
namespace Gm
open PySem PySem.Spec PyProof.Rows L2
def shR (d : D) (st : Store) : Option PyData := match d with
  | .ref n => match st[n]? with
    | some (.lst ds) => (shDs ds).map .list
    | _ => none
  | d => shD d
def reprD (d : D) (st : Store) : Option Str := match shR d st with
  | some p => if p.showable = true ∧ p.hasDict = false ∧ p.shown.length ≤ 100000 ∧ p.depth ≤ 50 then some p.shown else none
  | none => none
section
variable {K : PySem.W.Frag} {L : Lw} {W : Wd} {X : Cx} {pins : List (Addr × Obj)} {σ : L2.St} {H : Hp} {s : Shared}
theorem readsR (I : Inv X pins σ H s) {st : Store} (S : Sok X.K L W st H) {d : D} {p : PyData} {x : V} {u : Value} (e : shR d st = some p) (R : Rl X.K L W d x) (r : RelV x u) : ∃ as, Reads s.heap u p as := by
  cases d with
  | ref n =>
    unfold shR at e
    dsimp only at e
    split at e
    · rename_i ds hn
      obtain ⟨ps, h1, rfl⟩ := Option.map_eq_some_iff.mp e
      obtain ⟨a, rfl, h2⟩ := Rl.ref.mp R
      obtain rfl : u = Value.ref a := r
      obtain ⟨vs, h3, h4⟩ := S.cell n _ a hn h2
      obtain ⟨_, its, m, hv, _, g⟩ := I.lstM h3
      obtain ⟨as, q⟩ := readss_of I S.fz h1 h4 hv
      exact ⟨_, .list g rfl rfl (by simpa using q)⟩
    · cases e
  | _ => exact reads_of I S.fz e R r
end
section
variable {L : Lw} {X : Cx} {Wx : WX} {k : Nat} {c : Fn}
def bRepr (ds : List D) (st : Store) : Res D := match ds with
  | [d] => match reprD d st with
    | some t => .ok (.str t) st
    | none => .stuck
  | _ => .stuck
theorem repr_run (hg : X.A.guards = some []) (hu : X.A.units + 60 < cLine) {pins : List (Addr × Obj)} {σ : L2.St} {H : Hp} {s : Shared} {W : Wd} {st : Store} {d : D} {t : Str} {x : V} {u : Value} {xe : Value → Shared → Prop} {Q : Value → Shared → Prop} (I : Inv X pins σ H s) (S : Sok X.K L W st H)
    (e : reprD d st = some t) (R : Rl X.K L W d x) (r : RelV x u) (q : ∀ s' tk, Inv X pins σ H s' → Q (.str t tk) s') : wpAny (model X.prog X.w) X.A (PySem.call (.builtin "repr") [u]) Q xe s := by
  unfold reprD at e
  cases hp : shR d st with
  | none => rw [hp] at e; cases e
  | some p =>
    rw [hp] at e
    dsimp only at e
    split at e
    · rename_i hh
      obtain ⟨h1, h2, h3, h4⟩ := hh
      cases e
      obtain ⟨as, rd⟩ := readsR I S hp R r
      have hz : p.shown.length ≤ sizeLine := by rw [sizeLine_eq]; omega
      have go : ∀ {a : Addr}, Reads s.heap (.ref a) p as → wpAny (model X.prog X.w) X.A (PySem.call (.builtin "repr") [.ref a]) Q xe s := fun {a} rd =>
        repr_of_reads' rd h1 (fun z => by rw [h2] at z; cases z) hg (by omega) (fun _ _ e => e) (fun h' w' tk hk => q _ _ (I.kept hk)) hz
      cases rd with
      | none => exact PySem.P.repr_of_none (q _ _ (I.tok _))
      | bool b => exact PySem.P.repr_of_bool (q _ _ (I.tok _))
      | int i tk => exact PySem.P.repr_of_int (of_decide_eq_true (show decide (i.natAbs.log2 < 1920) = true from h1)) (q _ _ (I.tok _))
      | str y tk => exact PySem.P.repr_of_str (q _ _ (I.tok _)) hz
      | list a1 a2 a3 a4 => exact go (.list a1 a2 a3 a4)
      | tuple a1 a2 a3 a4 => exact go (.tuple a1 a2 a3 a4)
      | dict a1 a2 a3 a4 a5 => exact go (.dict a1 a2 a3 a4 a5)
    · cases e
theorem rc_repr (G : Gd L X Wx k c) (hg : X.A.guards = some []) : RCv L X Wx (.builtin "repr") bRepr := fun pins s σ H W st ds xs us Q I S R r o => by
  unfold bRepr at o
  split at o
  · rename_i d
    obtain ⟨v, vs, rfl, R1, R2⟩ := Rls.cons.mp R
    cases Rls.nil.mp R2
    cases r with
    | cons r1 r2 =>
      cases r2
      split at o
      · rename_i t ht
        exact repr_run hg (by have := G.room.un; omega) I S ht R1 r1 fun s' tk I' => EP.of_ok (K := X.K) I' S (Rl.str.mpr rfl) ⟨tk, rfl⟩ o
      · exact o.elim
  · exact o.elim
end
end Gm
namespace Gm
open PySem PySem.Spec PyProof.Rows L2
section
variable {P : Program} {w : World} {K : PySem.W.Frag} {mg : Str → Option Value} {base : Heap} {L : Lw}
theorem fn_ruleP {x qual : Str} {st : Stmt} {f : Addr} {fd : FuncData} {N ps : List Str} {k : Nat} {c : Fn} {b : List (Str × Addr) → Fs} (F : FunG K x qual st f fd) (S : FnScope N ps (defScope st)) (fo : FOk L P w K mg base k c)
    (hc : ∀ (cdv : Value) (A : Around) (outer : List Env) (s : Shared) (H : Hp) (E : XK), (cxOf (L2.CX P w) P w K mg base N qual (defScope st) f cdv A outer s H E).calm = true)
    (hbody : ∀ (X : Cx) (Wx : WX) (cdv : Value), fd.code = cdv → (∃ (A : Around) (outer : List Env) (s : Shared) (H : Hp) (E : XK), X = cxOf (L2.CX P w) P w K mg base N qual (defScope st) f cdv A outer s H E) → Room (k + 12) X.A → X.A.guards = some [] → Gd L X Wx k c → RSs L X Wx (defBody st) (b X.env.cells)) :
    FnP (Bare (k + 13)) P w K mg base (L2.CX P w) f fd ps (spM K L ps.length (fnG N.length b)) := by
  obtain ⟨oc, od, dV, kV, doc, pm, an, cdv, ct, osl, rfl, lk, hcd⟩ := F.ex
  refine ⟨fun A outer s H args us vs Q E hA e0 hbt r hsp => ?_⟩
  obtain ⟨hl, ds, W, sto, R, So, o⟩ := hsp
  have hr := hA.room
  have KX : K.In s.heap := e0.mod.kin.keeps fun b o e => (e0.bs b o e).1
  have lim : s.heap.NoLimit := e0.mod.nolimit.keeps fun b o e => (e0.bs b o e).1
  have hkind : ∀ y ∈ ps.zip us, (defScope st).names.lookup y.1 = some .local ∨ ((defScope st).names.lookup y.1 = some .cell ∧ ((cellsFrom (s.heap.objs.size + 1) (defScope st).names []).lookup y.1).isSome = true) := fun ⟨n, v⟩ hy => by
    rcases S.par n (List.of_mem_zip hy).1 with q | q
    · exact .inl q
    · exact .inr ⟨q, PySem.W.cellsFrom_some _ _ _ (.inl q)⟩
  refine codeAny_call_function hr.depth (KX _ _ lk) rfl S.co S.gen rfl (PySem.W.codeRec_of KX hcd) (hbt _ _ _ _ ?_)
  refine wpAny_newFunctionEnv_cells S.kind hkind fun env he s1 x => ?_
  subst he
  refine ⟨lim.keeps x.toInCall.keep, codeAny_func ?_⟩
  let X := cxOf (L2.CX P w) P w K mg base N qual (defScope st) f cdv A outer s H E
  have G : Gd L X (fun cls d _ H => E cls d H) k c := ⟨fo, (hr.deeper _).mono (by omega), takes_of rfl rfl rfl rfl, hc cdv A outer s H E, passes_of rfl, S.nd⟩
  have hb := hbody X _ cdv rfl ⟨A, outer, s, H, E, rfl⟩ (hr.deeper _) hA.gd G
  have I : Inv X [] (L2.start N vs) H s1 := inv_start S hr.hd e0 hl r x
  have o : Out K L (fun cls d _ H => E cls d H) W [] (okE K L Q) (fnD N.length (b X.env.cells) ds sto) := by
    have o' : Out K L (fun cls d _ H => E cls d H) W [] (okE K L Q) (fnG N.length b ds sto) := o
    unfold fnG at o'
    split at o'
    · rename_i hh
      rw [hh]
      exact o'
    · exact o'.elim
  generalize b X.env.cells = b' at hb o
  have fin : ∀ {σ' : L2.St} {H' : Hp} {s' : Shared} {v : V} {u : Value}, Inv X [] σ' H' s' → RelV v u → Q v H' → CE outer P w H s Q u s' := fun J rv q => ⟨_, _, J.os, J.bare, J.base, J.hok, rv, q⟩
  refine wpAny_mono (hb.run [] s1 _ H W sto _ { nx := fun _ H' => Q .non H', rt := Q } I So (by unfold L2.start; exact start_ok _ R) ?_) (fun fl s' hs => ?_) fun e s' hs => hs
  · have o2 := tidy_ok (K := K) (L := L) (W := W) (σ := []) So o
    unfold runB at o2
    cases q : b' (startE N.length ds) sto with
    | nx ρ st' => rw [q] at o2; exact fun W' H' σ' e' S' E' => o2 W' H' e' S' .non (Rl.non.mpr rfl)
    | rt d st' => rw [q] at o2; exact fun W' H' v e' S' R' => o2 W' H' e' S' v R'
    | bk ρ st' => rw [q] at o2; exact o2.elim
    | ct ρ st' => rw [q] at o2; exact o2.elim
    | err x ρ st' => rw [q] at o2; exact fun W' H' σ' cls dx e' S' E' R' => o2 W' H' cls dx e' S' R'
    | stuck => rw [q] at o2; exact o2.elim
  · cases fl with
    | ret u =>
      obtain ⟨v, σ', H', J, rv, q⟩ := hs
      exact fin J rv q
    | next =>
      obtain ⟨σ', H', J, q⟩ := hs
      exact fin (v := V.non) (u := Value.none) J rfl q
    | _ =>
      obtain ⟨_, _, _, q⟩ := hs
      exact False.elim q
theorem fnG_const {n : Nat} {b : Fs} : fnG n (fun _ => b) = fnD n b := by
  funext ds st
  exact fnG_of fun _ => rfl
end
section
variable {L : Lw} {X : Cx} {Wx : WX} {k : Nat} {c : Fn} {x : Str} {e : Expr} {es : List Expr} {r : Fa} {p pos : Pos}
def xCallP (m : List D → Store → Res D) (r : Fa) : Fe := fun ρ st => (r ρ st).bind m
theorem re_callP {i : Nat} {m : List D → Store → Res D} (G : Gd L X Wx k c) (hg : X.A.guards = some []) (hf : L.isF i = true) (hd : [] ∈ L.dfl i) (F : FnP (Bare k) X.prog X.w X.K X.mg X.base (L2.CX X.prog X.w) (L.fad i) (L.fdt i) (L.fps i) (spM X.K L (L.fps i).length m))
    (hl : Gl X x) (hm : X.mg x = some (.ref (L.fad i))) (ha : RA L X Wx (e :: es) r) (hn : (e :: es).length = (L.fps i).length) (hdb : (x == ("__debug__" : Str)) = false := by decide)
    (he : starEach (e :: es) X.env = (false, eval e X.env) :: starEach es X.env := by rfl) (hpl : (backTo pos (starEach es X.env)).any (·.1) = false := by rfl) :
    RE L X Wx (.Call (.Name x p) (e :: es) [] pos) (xCallP m r) := by
  obtain ⟨dvs, dsV, hb, hdd, hT⟩ := G.fo.bt i hf [] hd
  refine ⟨fun pins s σ H W st ρ Q I S E o => ?_⟩
  have e1 : dvs = [] := Rls.nil.mp (hT W)
  subst e1
  cases hdd
  refine wpAny_Call_Name_kw (ld_glob I hl hm ?_ hdb)
  refine PySem.W.callWith_K (h₀ := X.base) I.ok.mod.kin (G.fo.kp i hf) (ha.bind I S E o fun ds st1 W1 H1 vs us s1 hl e1 I1 S1 R1 r1 o1 => ⟨I1.kIn, ?_⟩) he hpl
  have hlen : vs.length = (L.fps i).length := by rw [← R1.length, hl, hn]
  have hbt := hb s1 us I1.kIn (by rw [List.append_nil, ← r1.length]; exact hlen)
  rw [List.append_nil] at hbt
  have hsp : spM X.K L (L.fps i).length m vs H1 Q (WE Wx σ) := by
    refine ⟨hlen, ds, W1, st1, R1, S1, ?_⟩
    revert o1
    cases m ds st1 with
    | ok d st' => exact id
    | err x st' => exact id
    | stuck => exact id
  refine wpAny_call (codeAny_mono (F.run X.A X.stack s1 H1 ⟨us, []⟩ us vs Q (WE Wx σ) ⟨G.room.mono (by omega), hg⟩ I1.env0 hbt r1 hsp) fun r s' hq => ?_)
  cases r with
  | error e => exact passAt G.tk σ pins H1 s1 e s' I1 hq
  | ok fl =>
    cases fl with
    | ret u => exact I1.after hq
    | _ => exact False.elim hq
end
end Gm
namespace Gm
open PySem PySem.Spec PyProof.Rows L2
section
variable {P : Program} {w : World} {K : PySem.W.Frag} {mg : Str → Option Value} {base : Heap} {L : Lw} {k n : Nat} {f : Addr} {fd : FuncData} {ps : List Str} {Ar : Around → Prop}
theorem fnOk_stuck : FnOk P w K mg base (L2.CX P w) k f fd ps (spM K L ps.length fun _ _ => .stuck) :=
  ⟨fun _ _ _ _ h => h.1, fun _ _ _ _ _ _ _ _ _ _ _ _ _ hs => by obtain ⟨_, _, _, _, _, _, o⟩ := hs; exact o.elim⟩
theorem fnP_stuck : FnP Ar P w K mg base (L2.CX P w) f fd ps (spM K L ps.length fun _ _ => .stuck) :=
  ⟨fun _ _ _ _ _ _ _ _ _ _ _ _ _ hs => by obtain ⟨_, _, _, _, _, _, o⟩ := hs; exact o.elim⟩
end
end Gm
namespace Gm
open PySem PySem.Spec PyProof.Rows L2
section
variable {X : Cx}
end
section
variable {L : Lw} {X : Cx} {Wx : WX} {k : Nat} {c : Fn} {o e : Expr} {apos pos : Pos}
end
end Gm
namespace Gm
open PySem PySem.Spec PyProof.Rows L2
section
variable {L : Lw} {X : Cx} {Wx : WX} {k : Nat} {c : Fn}
end
end Gm
namespace Gm
open PySem PySem.Spec PyProof.Rows L2 LamX
def tTp0 (vs : List V) : TE := fun _ H Q => ∀ p, H p = none → Q (.ref p) (upd H p (.tup vs))
theorem pe_tp0 {X : Cx} {e : Expr} {vs : List V} {te : TE} (h : PE X e te) (hh : ∀ σ H Q, tTp0 vs σ H Q → te σ H Q) : PE X e (tTp0 vs) :=
  ⟨fun pins s σ H Q I q => h.run pins s σ H Q I (hh σ H Q q)⟩
section
variable {L : Lw} {X : Cx} {Ng : List Str} {x a q : Str} {sg : Scope} {g : Addr} {cdg : Value} {hs : List Hc} {h₀ : ExceptHandler} {hds : List ExceptHandler} {p1 p2 pe pt : Pos}
theorem givesAT {j : Nat} {told : Str} {e0 : Expr} {vs0 : List V} {pa pb pc pd : Pos} (hN : Ng.Nodup) (hl : 0 < Ng.length) (hj0 : j ≠ 0) (hh : ∀ s H, HdsR L (gcx X Ng x sg g cdg s H) (h₀ :: hds) hs) (hm : ∀ h ∈ hs, ∃ g, h.m = .set j g) (hsw : ∀ s H, swapsWith (.Call (.Name a p1) [] [] p2) none pe.line (gcx X Ng x sg g cdg s H).env = pure false)
    (hi : Ng[j]? = some told) (hx : ∀ s H, Loc (gcx X Ng x sg g cdg s H).env.scope told) (he0 : ∀ s H, PE (gcx X Ng x sg g cdg s H) e0 (tTp0 vs0)) (hs0 : ∀ s H, swapsWith e0 (some (.Name told pa)) pb.line (gcx X Ng x sg g cdg s H).env = pure false)
    (hd : (told == ("__debug__" : Str)) = false := by decide) (hcd : (told == ("__classdict__" : Str)) = false := by decide) :
    GivesTo X Ng x sg g cdg [.Assign [.Name told pa] e0 pb, .Try [.Expr (.Call (.Name a p1) [] [] p2) pe] (h₀ :: hds) [] [] pt, .Return (some (.Name told pc)) pd] a q (TTt L X.K hs vs0) := by
  intro f c' s H Q tl act hc h
  have hjl : j < Ng.length := (List.getElem?_eq_some_iff.mp hi).1
  have vis : Vis (gcx X Ng x sg g cdg s H).env.scope told := (hx s H).elim .inl fun z => .inr (.inl z)
  have r3 : PSs (gcx X Ng x sg g cdg s H) [.Return (some (.Name told pc)) pd] (fun D σ H => σ.length = Ng.length → ∃ v, σ[j]? = some (some v) ∧ D.rt v H) :=
    ⟨fun pins s' σ H1 D I h => (pss_one (ps_ret (pos := pd) (pe_var (X := gcx X Ng x sg g cdg s H) (pos := pc) hi vis hd hcd))).run pins s' σ H1 D I (h I.len)⟩
  refine ⟨_, pss_cons (ps_set (X := gcx X Ng x sg g cdg s H) (pos' := pa) (pos := pb) hN hi (hx s H) (he0 s H) (hs0 s H) (.inl rfl)) (pss_cons (try_gives (Q := Q) (pt := pt) hN (hh s H) (hsw s H) act) r3), ?_⟩
  have hlen : (L2.start Ng [V.ref f]).length = Ng.length := by
    unfold L2.start
    simp
    omega
  intro p hp
  show _ ∧ _ ∧ _ ∧ _
  refine ⟨by rw [List.getElem?_set_ne hj0]; exact start_0 hl, upd_grow hp _ _ hc, fun cls d σ' H' ex => ?_, ?_⟩
  · obtain ⟨W, st, y, dv, S, R, ea, q⟩ := ex
    refine ⟨W, st, y, _, S, enr_none, R, ?_⟩
    obtain ⟨oi, e⟩ := runH_set (x := y) (ρ := List.replicate σ'.length none) (st := st) hm ea
    rw [e]
    intro W2 H2 σ2 l2 S2 E2 hl2
    have e3 : ((unb (List.replicate σ'.length none) oi).set j (some dv))[j]? = some (some dv) := by
      rw [List.getElem?_set_self]
      have := E2.1
      rw [List.length_set] at this
      omega
    obtain ⟨v, h3, h4⟩ := E2.2 j dv e3
    exact ⟨v, h3, q W2 H2 v l2 S2 h4⟩
  · show tl _ _ _
    have eQ : (fun (_ : V) (H' : Hp) => ((L2.start Ng [V.ref f]).set j (some (.ref p))).length = Ng.length → ∃ v, ((L2.start Ng [V.ref f]).set j (some (.ref p)))[j]? = some (some v) ∧ Q v H') = fun _ H' => Q (.ref p) H' := by
      funext _ H'
      apply propext
      constructor
      · intro hq
        obtain ⟨v, h1, h2⟩ := hq (by rw [List.length_set]; exact hlen)
        rw [List.getElem?_set_self (by rw [hlen]; exact hjl)] at h1
        cases h1
        exact h2
      · intro hq _
        exact ⟨.ref p, List.getElem?_set_self (by rw [hlen]; exact hjl), hq⟩
    have h' : tl (EX L X.K hs Q) (upd H p (.tup vs0)) (fun _ H' => Q (.ref p) H') := h p hp
    rw [← eQ] at h'
    exact h'
end
section
variable {L : Lw} {X : Cx} {Wx : WX} {k : Nat} {c : Fn}
end
section
variable {L : Lw} {X : Cx} {Wx : WX} {k : Nat} {c : Fn}
theorem lamVT_core (G : Gd L X Wx k c) (hr : Room (k + 12) X.A) {hs : List Hc} {ds0 : List D} {vs0 : List V} {x a : Str} {g : Addr} {stg : Stmt} {fdg : FuncData} {Ng : List Str} (Z : TryT L X hs ds0 vs0 x a g stg fdg Ng) {F : LF} {f : Fe} (B : BodyOk L X k c F f)
    {pins : List (Addr × Obj)} {σ : L2.St} {H : Hp} {s : Shared} {W : Wd} {st : Store} {ρ : Ev} {Q : VK} {Wy : WX} {σy : L2.St} {fa : Addr} (I : Inv X pins σ H s) (S : Sok X.K L W st H) (E : EnR X.K L W σ ρ) (hf : CloR W fa F X.env.cells) (o : Out X.K L Wy W σy (okE X.K L Q) (xLam hs (.tup ds0) f ρ st)) :
    codeAny (model X.prog X.w) X.A (.call (.ref g) ⟨[.ref fa], []⟩) (CR C8.CX0 X.stack X.prog X.w H s Q C8.E0) s := by
  obtain ⟨oc, od, dV, kV, doc, pm, an, cdv, ct, osl, hfd, lk, hcg⟩ := Z.F.ex
  subst hfd
  obtain ⟨c', h1, h2⟩ := hf
  have hb := Z.b
  have hG := Z.G
  rw [B.qual] at h2
  refine lam_run (k := k + 10) (TT := TTt L X.K hs vs0) (t := fun E' => teOf L X.K (fun cls d _ H' => E' cls d H') f) I lk hcg hb Z.S Z.N Z.v (hG cdv rfl) hr B.ls B.qual B.bind ?_ Z.d Z.cd (S.fz _ _ h2) ?_
  · intro A outer s' H' E' fa ca hr'
    have G' : Gd L (lamCx X A outer s' H' E' F.scope fa ca) (fun cls d _ H' => E' cls d H') k c := G.lam G.fo (hr'.mono (by omega))
    exact (B.body _ _ ⟨A, outer, s', H', E', fa, ca, rfl⟩ G').pe
  · intro p0 hp
    obtain ⟨e2, S2⟩ := S.alloc_fz (o := .tup vs0) hp
    have R0 : ∀ W', (W.freeze p0 (.tup vs0)).le W' → Rl X.K L W' (.tup ds0) (.ref p0) := fun W' l => (Rl.tup.mpr ⟨p0, vs0, rfl, .inl (.inl (by show upd _ _ _ _ = _; exact upd_same)), Z.d0 _⟩).mono l
    refine ⟨S2.fz _ _ (e2.1 _ _ h1), ?_⟩
    show teOf L X.K (fun cls d _ H' => EX L X.K hs Q cls d H') f σ (upd H p0 (.tup vs0)) (fun _ H' => Q (.ref p0) H')
    refine ⟨W.freeze p0 (.tup vs0), st, ρ, S2, E.mono e2, ?_⟩
    have o2 := Out.mono e2 o
    clear o
    revert o2
    unfold xLam
    cases f ρ st with
    | ok d st' => exact fun o W' H' e S' v _ => o W' H' e S' (.ref p0) (R0 W' e)
    | err y st' =>
      intro o W' H' cls dx e S' R'
      cases ha : ansH y st' hs with
      | none => simp only [ha] at o; exact o.elim
      | some dv =>
        simp only [ha] at o
        exact ⟨W', st', y, dv, S', R', ha, fun W2 H2 v e2 S2 R2 => o W2 H2 (e.trans e2) S2 v R2⟩
    | stuck => intro o; exact o.elim
theorem re_lamVT (G : Gd L X Wx k c) (hr : Room (k + 12) X.A) {hs : List Hc} {ds0 : List D} {vs0 : List V} {x a : Str} {g : Addr} {stg : Stmt} {fdg : FuncData} {Ng : List Str} (Z : TryT L X hs ds0 vs0 x a g stg fdg Ng) {bs : List (LF × Fe)} (B : BsOk L X k c bs) {e : Expr} {fe : Fe} {p pos : Pos} (hg : Gl X x) (he : RE L X Wx e fe)
    (hst : starEach [e] X.env = (false, eval e X.env) :: starEach [] X.env := by rfl) : RE L X Wx (.Call (.Name x p) [e] [] pos) (xLamV hs (.tup ds0) bs X.env.cells [] fe) := by
  refine ⟨fun pins s σ H W st ρ Q I S E o => ?_⟩
  refine wpAny_Call_Name_kw (ld_glob I hg Z.m ?_ Z.db)
  refine PySem.W.callWith_K (h₀ := X.base) I.ok.mod.kin Z.k ?_ hst (by rfl)
  rw [hst]
  show wpAny _ _ (spliced ((false, eval e X.env) :: backTo pos (starEach [] X.env))) _ _ s
  have step : teOf L X.K Wx fe σ H (fun v H1 => ∃ (W1 : Wd) (st1 : Store) (m : Nat) (fa : Addr) (j : Nat) (F : LF) (f : Fe), W.le W1 ∧ Sok X.K L W1 st1 H1 ∧ v = .ref fa ∧ st1[m]? = some (Cell.clo j F X.env.cells) ∧ W1.io[m]? = some fa ∧ bs[j]? = some (F, f) ∧ Out X.K L Wx W1 σ (okE X.K L Q) (xLam hs (.tup ds0) f ρ st1)) := by
    refine ⟨W, st, ρ, S, E, ?_⟩
    revert o
    unfold xLamV
    cases fe ρ st with
    | stuck => exact fun o => o.elim
    | err y st1 => exact fun o => o
    | ok d st1 =>
      intro o W1 H1 e1 S1 v R1
      dsimp only [Res.bind_ok] at o
      split at o
      · rename_i m
        split at o
        · rename_i j F γ' hm
          split at o
          · rename_i q hq
            split at o
            · rename_i hF
              obtain ⟨hF1, hF2⟩ := hF
              obtain ⟨fa, rfl, hio⟩ := Rl.ref.mp R1
              subst hF2
              exact ⟨W1, st1, m, fa, j, F, q.2, e1, S1, rfl, hm, hio, by rw [hq, ← hF1], Out.mono e1 o⟩
            · exact o.elim
          · exact o.elim
        · exact o.elim
      · exact o.elim
  refine Calls.spliced_cons (thn (he.pe.run pins s σ H _ I step) fun u s1 hu => ?_)
  obtain ⟨v, H1, I1, rv, W1, st1, m, fa, j, F, f, l1, S1, rfl, hm, hio, hj, o1⟩ := hu
  obtain rfl : u = Value.ref fa := rv
  refine Calls.spliced_nil ⟨I1.kIn, ?_⟩
  have rc := lamVT_core G hr Z (B.get hj) I1 S1 (E.mono l1) (S1.cell m _ fa hm hio) o1
  refine wpAny_call (codeAny_mono rc fun r s2 hq => ?_)
  cases r with
  | error e => exact (show False from hq).elim
  | ok fl =>
    cases fl with
    | ret u => exact I1.after hq
    | next => exact False.elim hq
    | brk => exact False.elim hq
    | cont => exact False.elim hq
end
section
variable {L : Lw} {X : Cx} {Wx : WX} {k : Nat} {c : Fn}
theorem rei_lamVT (G : Gd L X Wx k c) (hr : Room (k + 12) X.A) {hs : List Hc} {ds0 : List D} {vs0 : List V} {x a : Str} {g : Addr} {stg : Stmt} {fdg : FuncData} {Ng : List Str} (Z : TryT L X hs ds0 vs0 x a g stg fdg Ng) {bs : List (LF × Fe)} (B : BsOk L X k c bs) {e : Expr} {fe : Fe} {p pos : Pos}
    {pins0 : List (Addr × Obj)} {σ0 : L2.St} {s : Shared} {H : Hp} {scope : Scope} {cenv : Env} {fp : List Addr} {own : List Nat} (hg : Gl (X.blk s H scope cenv fp) x) (he : RE L (X.blk s H scope cenv fp) W0 e fe)
    (hst : starEach [e] cenv = (false, eval e cenv) :: starEach [] cenv := by rfl) : REI L X pins0 σ0 (X.blk s H scope cenv fp) own (.Call (.Name x p) [e] [] pos) (xLamV hs (.tup ds0) bs X.env.cells own fe) := by
  refine ⟨⟨fun pins s1 σ H1 Q IY back hw ⟨W, st, ρ, S, E, o⟩ => ?_⟩⟩
  refine wpAny_Call_Name_kw (ld_glob (X := X.blk s H scope cenv fp) IY hg Z.m ?_ Z.db)
  refine PySem.W.callWith_K (h₀ := X.base) IY.ok.mod.kin Z.k ?_ hst (by rfl)
  rw [hst]
  show wpAny _ _ (spliced ((false, eval e cenv) :: backTo pos (starEach [] cenv))) _ _ s1
  have step : teOf L X.K W0 fe σ H1 (fun v H2 => ∃ (W1 : Wd) (st1 : Store) (m : Nat) (fa : Addr) (j : Nat) (F : LF) (f : Fe), W.le W1 ∧ Sok X.K L W1 st1 H2 ∧ v = .ref fa ∧ st1[m]? = some (Cell.clo j F X.env.cells) ∧ W1.io[m]? = some fa ∧ bs[j]? = some (F, f) ∧ Out X.K L W0 W1 σ (okE X.K L Q) (xLam hs (.tup ds0) f (wipeE ρ own) st1)) := by
    refine ⟨W, st, ρ, S, E, ?_⟩
    revert o
    unfold xLamV
    cases fe ρ st with
    | stuck => exact fun o => o.elim
    | err y st1 => exact fun o => o
    | ok d st1 =>
      intro o W1 H2 e1 S1 v R1
      dsimp only [Res.bind_ok] at o
      split at o
      · rename_i m
        split at o
        · rename_i j F γ' hm
          split at o
          · rename_i q hq
            split at o
            · rename_i hF
              obtain ⟨hF1, hF2⟩ := hF
              obtain ⟨fa, rfl, hio⟩ := Rl.ref.mp R1
              subst hF2
              exact ⟨W1, st1, m, fa, j, F, q.2, e1, S1, rfl, hm, hio, by rw [hq, ← hF1], Out.mono e1 o⟩
            · exact o.elim
          · exact o.elim
        · exact o.elim
      · exact o.elim
  refine Calls.spliced_cons (thn (he.pe.run pins s1 σ H1 _ IY step) fun u s2 hu => ?_)
  obtain ⟨v, H2, I2, rv, W1, st1, m, fa, j, F, f, l1, S1, rfl, hm, hio, hj, o1⟩ := hu
  obtain rfl : u = Value.ref fa := rv
  refine Calls.spliced_nil ⟨I2.kIn, ?_⟩
  have E0 : EnR X.K L W1 σ0 (wipeE ρ own) := by
    have E1 := (E.mono l1).wipe own
    rw [hw] at E1
    refine ⟨by rw [← L2.wipe_length σ0 own]; exact E1.1, fun i d hd => ?_⟩
    obtain ⟨v, h3, h4⟩ := E1.2 i d hd
    obtain ⟨_, h6⟩ := wipeE_some hd
    exact ⟨v, by rw [← wipe_at h6]; exact h3, h4⟩
  have rc := lamVT_core G hr Z (B.get hj) (back _ _ _ _ I2) S1 E0 (S1.cell m _ fa hm hio) o1
  refine wpAny_call (codeAny_mono rc fun r s3 hq => ?_)
  cases r with
  | error e => exact (show False from hq).elim
  | ok fl =>
    cases fl with
    | ret u => exact I2.after hq
    | next => exact False.elim hq
    | brk => exact False.elim hq
    | cont => exact False.elim hq
end
end Gm
namespace Gm
open PySem PySem.Spec PyProof.Rows L2 LamX
def subT (d1 d2 : D) (st : Store) : Res D := match d1 with
  | .tup ds => match d2 with
    | .int i => optR (atI ds i) st
    | _ => .stuck
  | _ => .stuck
section
variable {L : Lw} {X : Cx} {Wx : WX} {k : Nat} {c : Fn}
theorem rei_ix0 {pins0 : List (Addr × Obj)} {σ0 : L2.St} {s : Shared} {H : Hp} {scope : Scope} {cenv : Env} {fp : List Addr} {own : List Nat} {e : Expr} {f : Fe} {i : Int} {j : Nat} {p pos : Pos}
    (h : REI L X pins0 σ0 (X.blk s H scope cenv fp) own e f) (hs : PlainIx (Expr.Constant (.int i) j p) := by intro _ _; rfl) : REI L X pins0 σ0 (X.blk s H scope cenv fp) own (.Subscript e (.Constant (.int i) j p) pos) (xBin subT f (xK (.int i))) := by
  refine ⟨⟨fun pins s1 σ H1 Q I back hw ⟨W, st, ρ, S, E, o⟩ => ?_⟩⟩
  have step : teOf L X.K W0 f σ H1 (fun v H2 => ∃ (W1 : Wd) (st1 : Store) (d : D), W.le W1 ∧ Sok X.K L W1 st1 H2 ∧ Rl X.K L W1 d v ∧ Out X.K L W0 W1 σ (okE X.K L Q) (subT d (.int i) st1)) := by
    refine ⟨W, st, ρ, S, E, ?_⟩
    revert o
    show Out X.K L W0 W σ (okE X.K L Q) ((f ρ st).bind fun d st => subT d (.int i) st) → _
    cases f ρ st with
    | stuck => exact fun o => o.elim
    | err y st1 => exact fun o => o
    | ok d st1 =>
      intro o W1 H2 e1 S1 v R1
      exact ⟨W1, st1, d, e1, S1, R1, Out.mono e1 o⟩
  refine Subscript_ (thn (h.pe.run pins s1 σ H1 _ I back hw step) fun u s2 hu => ?_)
  obtain ⟨v, H2, I2, rv, W1, st1, d, e1, S1, R1, o1⟩ := hu
  refine thn ((pe_int (X := X.blk s H scope cenv fp) (j := j) (pos := p)).run pins s2 σ H2 (fun y H3 => y = V.int i ∧ H3 = H2) I2 ⟨rfl, rfl⟩) fun u2 s3 hu2 => ?_
  obtain ⟨y, H3, I3, ry, hy, hH⟩ := hu2
  subst hH
  unfold subT at o1
  cases d with
  | tup ds =>
    dsimp only at o1
    cases hat : atI ds i with
    | none => rw [hat] at o1; exact o1.elim
    | some d' =>
      rw [hat] at o1
      obtain ⟨a', vs, ev, h1, h2⟩ := Rl.tup.mp R1
      obtain ⟨w, h3, h4⟩ := atI_rls h2 hat
      exact ix_tup (X := X.blk s H scope cenv fp) e (.Constant (.int i) j p) pins s3 σ H3 _ y u u2 Q I3 rv ry ⟨a', vs, i, w, ev, hy, SqT_mono S1.fz h1, h3, o1 W1 H3 .rfl' S1 w h4⟩ (hs _ _)
  | _ => exact o1.elim
end
end Gm
namespace Gm
open PySem PySem.Spec PyProof.Rows L2
theorem abs_own {prog : Program} {w : World} {A : Around} {E : Value → Shared → Prop} {s : Shared} {K : PySem.W.Frag} {x C f : Addr} {ox : Obj} {od : Option Obj} {Q : Value → Shared → Prop} (X : K.In s.heap) (I : PySem.W.InstAt s.heap x ox C od)
    (hs : PySem.W.findIn K (.ref C) "__abs__" = some (some (.ref f))) (hf : PySem.W.isFn K (.ref f) = true) (h : wpAny (model prog w) A.in1 (PySem.call (.ref f) [.ref x]) Q E s) : wpAny (model prog w) A (PySem.call (.builtin "abs") [.ref x]) Q E s := by
  refine Calls.call_function_entry kind_abs plain_abs entry_abs (args_abs _) ?_
  unfold Builtin.«abs»
  refine wpAny_bind (m := oneArg "abs" _) (wpAny_pure ?_)
  refine wpAny_bind (m := callSpecial? (.ref x) (Str.ofString "__abs__")) (PySem.W.special_fn X I hs (beq_iff_eq.mp hf) (wpAny_mono h (fun r s' hr => ?_) fun _ _ y => y))
  exact wpAny_pure ⟨_, rfl, hr⟩
section
variable {L : Lw} {X : Cx} {Wx : WX} {k : Nat} {c : Fn}
def bAbsO (T : Ls) (c : Fn) (ds : List D) (st : Store) : Res D := match ds with
  | [.int i] => .ok (.int (if i < 0 then -i else i)) st
  | [.obj i es] => match T.meth i 33 with
    | some f => callD T c f [.obj i es] st
    | none => .stuck
  | _ => .stuck
theorem rc_absO (G : Gd L X Wx k c) : RCv L X Wx (.builtin "abs") (bAbsO L.toLs c) := fun pins s σ H W st ds xs us Q I S R r o => by
  unfold bAbsO at o
  split at o
  · rename_i i
    obtain ⟨v, rfl, R1⟩ := rls1 R
    exact call_abs pins s σ H _ us Q I r ⟨i, by rw [Rl.int.mp R1], o W H .rfl' S _ (Rl.int.mpr rfl)⟩
  · rename_i i es
    obtain ⟨v, rfl, R1⟩ := rls1 R
    split at o
    · rename_i f hm
      obtain ⟨hC, hF, M⟩ := G.fo.mt i 33 f hm
      have hs := M.at_
      rw [G.fo.nm 33 (by decide) (by decide) (by decide)] at hs
      obtain ⟨u, rfl, ru⟩ := vals1 r
      obtain ⟨a, dx, od, rfl, J⟩ := inst_of I S R1
      cases ru
      obtain ⟨m, Fr0⟩ := I.fr
      have sub : Sub X k X.A.in1 := by
        have h : Sub X (k + 1) X.A := ⟨G.room.mono (by omega), rfl⟩
        exact h.in1
      exact abs_own I.kIn J hs M.fn (G.callA sub hF I S (Rls.mk R1 (Rls.nil.mpr rfl)) (.cons rfl .nil) o)
    · exact o.elim
  · exact o.elim
def bStrO (T : Ls) (c : Fn) (ds : List D) (st : Store) : Res D := match ds with
  | [.int i] => if i.natAbs.log2 < 1920 then .ok (.str (toString i)) st else .stuck
  | [.obj i es] => match T.meth i 35 with
    | some f => (callD T c f [.obj i es] st).bind fun d st => match d with
      | .str x => .ok (.str x) st
      | _ => .stuck
    | none => .stuck
  | _ => .stuck
theorem rc_strO (G : Gd L X Wx k c) : RCv L X Wx (.type "str") (bStrO L.toLs c) := fun pins s σ H W st ds xs us Q I S R r o => by
  unfold bStrO at o
  split at o
  · rename_i i
    exact rc_str pins s σ H W st _ xs us Q I S R r o
  · rename_i i es
    obtain ⟨v, rfl, R1⟩ := rls1 R
    split at o
    · rename_i f hm
      obtain ⟨hC, hF, M⟩ := G.fo.mt i 35 f hm
      have hs := M.at_
      rw [G.fo.nm 35 (by decide) (by decide) (by decide)] at hs
      obtain ⟨u, rfl, ru⟩ := vals1 r
      obtain ⟨a, dx, od, rfl, J⟩ := inst_of I S R1
      cases ru
      obtain ⟨m, Fr0⟩ := I.fr
      have o2 : Out X.K L Wx W σ (okE X.K L fun v H => ∃ b, v = .str b ∧ Q (.str b) H) (callD L.toLs c f [.obj i es] st) := by
        revert o
        generalize callD L.toLs c f [.obj i es] st = q
        cases q with
        | ok d s2 =>
          cases d with
          | str b => exact fun o W' H' e' S' v R' => ⟨b, Rl.str.mp R', o W' H' e' S' _ (Rl.str.mpr rfl)⟩
          | _ => exact fun o => o.elim
        | err x s2 => exact fun o => o
        | stuck => exact fun o => o
      have sub : Sub X k X.A.in1.in1 := by
        have h : Sub X (k + 1 + 1) X.A := ⟨G.room.mono (by omega), rfl⟩
        exact h.in1.in1
      refine PySem.W.kso_call (by have := G.room.un; show X.A.units + 1 + 1 < _; omega) I.kIn J hs M.fn ?_
      refine wpAny_mono (G.callA sub hF I S (Rls.mk R1 (Rls.nil.mpr rfl)) (.cons rfl .nil) o2) (fun r s' z => ?_) fun _ _ z => z
      obtain ⟨v', H', I', rv, b, rfl, q⟩ := z
      obtain ⟨t, rfl⟩ := rv
      exact ⟨.str b, H', I', ⟨t, rfl⟩, q⟩
    · exact o.elim
  · exact o.elim
def fmtD (d : D) (st : Store) : Res D := match d with
  | .int i => if i.natAbs.log2 < 1920 then .ok (.str (toString i)) st else .stuck
  | _ => .stuck
def xFmt (f : Fe) : Fe := fun ρ st => (f ρ st).bind fmtD
theorem re_fmt {e : Expr} {f : Fe} {pos : Pos} (he : RE L X Wx e f) : RE L X Wx (.FormattedValue e (-1) none pos) (xFmt f) := by
  refine RE.of_pe (pe_fmt he.pe) fun σ H W st ρ Q S E oo => ?_
  refine ⟨W, st, ρ, S, E, Out.toE oo fun d st1 W1 H1 v hr e1 S1 R1 o1 => ?_⟩
  unfold fmtD at o1
  split at o1
  · rename_i i
    split at o1
    · rename_i hz
      exact .inr ⟨i, Rl.int.mp R1, hz, o1 W1 H1 .rfl' S1 _ (Rl.str.mpr rfl)⟩
    · exact o1.elim
  · exact o1.elim
theorem re_js1 {e : Expr} {f : Fe} {pos : Pos} (he : RE L X Wx e f) : RE L X Wx (.JoinedStr [e] pos) f :=
  RE.of_pe (pe_joined1 he.pe) fun σ H W st ρ Q S E oo => ⟨W, st, ρ, S, E, oo⟩
def js3c (a b : Str) (d3 : D) (st : Store) : Res D := match d3 with
  | .str e => if (Str.empty ++ a ++ b ++ e).length ≤ sizeLine then .ok (.str (Str.empty ++ a ++ b ++ e)) st else .stuck
  | _ => .stuck
def js3b (f3 : Fe) (ρ : Ev) (a : Str) (d2 : D) (st : Store) : Res D := match d2 with
  | .str b => if (Str.empty ++ a ++ b).length ≤ sizeLine then (f3 ρ st).bind (js3c a b) else .stuck
  | _ => .stuck
def js3a (f2 f3 : Fe) (ρ : Ev) (d1 : D) (st : Store) : Res D := match d1 with
  | .str a => if (Str.empty ++ a).length ≤ sizeLine then (f2 ρ st).bind (js3b f3 ρ a) else .stuck
  | _ => .stuck
def xJs3 (f1 f2 f3 : Fe) : Fe := fun ρ st => (f1 ρ st).bind (js3a f2 f3 ρ)
theorem re_js3 {e1 e2 e3 : Expr} {f1 f2 f3 : Fe} {pos : Pos} (h1 : RE L X Wx e1 f1) (h2 : RE L X Wx e2 f2) (h3 : RE L X Wx e3 f3) : RE L X Wx (.JoinedStr [e1, e2, e3] pos) (xJs3 f1 f2 f3) := by
  refine RE.of_pe (pe_joined (.cons h1.pe (.cons h2.pe (.cons h3.pe .nil)))) fun σ H W st ρ Q S E oo => ?_
  refine ⟨W, st, ρ, S, E, Out.toE oo fun d1 st1 W1 H1 v1 hr1 l1 S1 R1 o1 => ?_⟩
  unfold js3a at o1
  split at o1
  · rename_i a
    split at o1
    · rename_i ha
      refine ⟨a, Rl.str.mp R1, ha, ?_⟩
      refine ⟨W1, st1, ρ, S1, E.mono l1, Out.toE o1 fun d2 st2 W2 H2 v2 hr2 l2 S2 R2 o2 => ?_⟩
      unfold js3b at o2
      split at o2
      · rename_i b
        split at o2
        · rename_i hb
          refine ⟨b, Rl.str.mp R2, hb, ?_⟩
          refine ⟨W2, st2, ρ, S2, (E.mono l1).mono l2, Out.toE o2 fun d3 st3 W3 H3 v3 hr3 l3 S3 R3 o3 => ?_⟩
          unfold js3c at o3
          split at o3
          · rename_i e
            split at o3
            · rename_i he
              exact ⟨e, Rl.str.mp R3, he, o3 W3 H3 .rfl' S3 _ (Rl.str.mpr rfl)⟩
            · exact o3.elim
          · exact o3.elim
        · exact o2.elim
      · exact o2.elim
    · exact o1.elim
  · exact o1.elim
end
end Gm
namespace Gm
open PySem PySem.Spec PyProof.Rows L2
namespace IC
open PySem.W PySem.Calls
theorem ic_eq : IntCmp .Eq Builtin.«int.__eq__» "int.__eq__" := ⟨PySem.F.slot_int_eq, PySem.F.entry_int_eq, PySem.F.args_int_eq_2, fun a t l C dx => .of_wp fun prog w A R s h => by
  obtain ⟨hp, g, d, tk, os⟩ := s; obtain ⟨hl, h⟩ := h; wp_walk; exact ⟨_, rfl, h⟩⟩
end IC
noncomputable def eqI (T : Ls) (c : Fn) (d1 d2 : D) (st : Store) : Res D := match d1 with
  | .int i => match d2 with
    | .obj j es => match T.meth j 21 with
      | some f => callD T c f [.obj j es, .int i] st
      | none => .stuck
    | _ => eqB T c false d1 d2 st
  | _ => eqB T c false d1 d2 st
section
variable {L : Lw} {X : Cx} {Wx : WX} {k : Nat} {c : Fn}
theorem r2_eqI (G : Gd L X Wx k c) : R2v L X Wx (compareOp .Eq) (eqI L.toLs c) := fun pins s σ H W st d1 d2 x y v u Q I S R1 R2 r1 r2 o => by
  cases d1 with
  | int i =>
    cases d2 with
    | obj j ds =>
      unfold eqI at o
      dsimp only at o
      cases hm : L.meth j 21 with
      | none => rw [hm] at o; exact o.elim
      | some f =>
        rw [hm] at o
        dsimp only at o
        obtain ⟨a, dx, od, rfl, J⟩ := inst_of I S R2
        cases r2
        have hx := Rl.int.mp R1
        subst hx
        obtain ⟨t, rfl⟩ := r1
        obtain ⟨m, F⟩ := I.fr
        obtain ⟨hC, hF, M⟩ := G.fo.mt j _ f hm
        have hs := M.at_
        rw [G.fo.nm 21 (by decide) (by decide) (by decide)] at hs
        have hcall := wpAny_mono (G.call hF I S (Rls.mk R2 (Rls.mk R1 (Rls.nil.mpr rfl))) (.cons rfl (.cons ⟨t, rfl⟩ .nil)) o) (fun r s' z => CmpBack_of (X := X) (Q := EP X pins σ Q) z id) (fun _ _ z => z)
        exact IC.int_cmp (op := .Eq) (i := i) (t := t) IC.ic_eq G.room.units0 F I.ok.mod.kin J hs M.fn (G.fo.sT j hC).2 hcall ⟨by decide, by decide⟩
    | _ => exact r2_eq G pins s σ H W st _ _ x y v u Q I S R1 R2 r1 r2 o
  | _ => exact r2_eq G pins s σ H W st _ d2 x y v u Q I S R1 R2 r1 r2 o
end
end Gm
namespace G08
open PySem PySem.Spec PyProof.Rows L2 Gm
theorem lam_24 : (d_24.at_, (d_24.qual ++ ".<locals>.") ++ "<lambda>") ∈ tb.lam := List.mem_iff_getElem?.mpr ⟨0, rfl⟩
def hs_17 : List Hc := [⟨tL [(1, true)], some 2, .set 1 (gTu (gCo (gIf (gI 1 true) (gK (.str "refused")) (gK (.str "odd"))) (gCo (gF 1 0) gNi)))⟩]
end G08
namespace G08
open PySem PySem.Spec PyProof.Rows L2 Gm
theorem ob_eq (s : PySem.W.SharedT) : ob s = hk.obs s.abs := obsY_eq (HandSHeadRun.getT_eq s)
end G08

namespace G08
open PySem PySem.Spec PyProof.Rows L2 Gm
noncomputable def B_0 (c : Fn) : Fs := (sRet (xOr (truD T c) (xIso T 0 (xVar 0)) (xAnd (truD T c) (xIst T "int" (xVar 0)) (xNot (truD T c) (xIst T "bool" (xVar 0))))))
noncomputable def B_1 (c : Fn) : Fs := (sSeq (sPar 0 1 (aCons (xBi bAbs (aCons (xVar 0) aNil)) (aCons (xBi bAbs (aCons (xVar 1) aNil)) aNil))) (sSeq (sWhile (tOf (truD T c) (xVar 1)) (sPar 0 1 (aCons (xVar 1) (aCons (xBin (binD T c .Mod) (xVar 0) (xVar 1)) aNil)))) (sRet (xVar 0))))
noncomputable def B_2 (c : Fn) : Fs := (sSeq (sAsg (xK (.int 1)) (gNm 2)) (sSeq (sWhile (tOf (truD T c) (xVar 1)) (sSeq (sIf (tOf (truD T c) (xBin (binD T c .Mod) (xVar 1) (xK (.int 2)))) (sAsg (xBin (binD T c .Mult) (xVar 2) (xVar 0)) (gNm 2)) sNx) (sSeq (sAsg (xBin (binD T c .Mult) (xVar 0) (xVar 0)) (gNm 0)) (sAsg (xBin (binD T c .FloorDiv) (xVar 1) (xK (.int 2))) (gNm 1))))) (sRet (xVar 2))))
noncomputable def B_3 (c : Fn) : Fs := (sSeq (sIf (tOf (truD T c) (xIso T 0 (xVar 0))) (sRet (xVar 0)) sNx) (sSeq (sIf (tNot (tOf (truD T c) (xCall T c 0 (aCons (xVar 0) aNil)))) (sRaise 1 (aCons (xVar 0) aNil)) sNx) (sRet (xMk T c 0 (aCons (xVar 0) aNil)))))
noncomputable def B_4 (c : Fn) : Fs := (sRet (xDic ["cells", "at", "rest"] (aCons (xBin (binD T c .Add) (xBi bList (aCons (xSl (xVar 0) oNo (oSo (xK (.int 63)))) aNil)) (xBin (binD T c .Mult) (xLst (aCons (xK (.int 0)) aNil)) (xBi bInt (aCons (xBin (eqB T c false) (xBi bLen (aCons (xVar 0) aNil)) (xK (.int 0))) aNil)))) (aCons (xK (.int 0)) (aCons (xK (.int 0)) aNil)))))
noncomputable def B_5 (c : Fn) : Fs := (sSeq (sIf (tOf (truD T c) (xBin (ordD T c .Lt) (xBin subD (xVar 0) (xK (.str "rest"))) (xVar 1))) (sSeq (sPar 2 3 (aCons (xBin subD (xVar 0) (xK (.str "at"))) (aCons (xBi bLen (aCons (xBin subD (xVar 0) (xK (.str "cells"))) aNil)) aNil))) (sSeq (sAsg (xTup (aCons (xBin subD (xBin subD (xVar 0) (xK (.str "cells"))) (xBin (binD T c .Mod) (xBi bInt (aCons (xVar 2) aNil)) (xVar 3))) (aCons (xBin (binD T c .Add) (xVar 2) (xK (.int 1))) aNil))) (gTp (gsCons (gNm 4) (gsCons (gPut (xVar 0) (xK (.str "at"))) gsNil)))) (sSeq (sAsg (xBin (binD T c .Add) (xBin (binD T c .Add) (xBin (binD T c .Mult) (xBi bInt (aCons (xVar 4) aNil)) (xK (.int 982451653))) (xBin (binD T c .Mult) (xBin (binD T c .Mult) (xK (.int 32452843)) (xVar 2)) (xVar 2))) (xK (.int 961748941))) (gNm 5)) (sSeq (sAsg (xBin (binD T c .Mod) (xBi bInt (aCons (xVar 5) aNil)) (xK (.int 2305843009213693907))) (gNm 5)) (sSeq (sPut (xVar 0) (xK (.str "rest")) (xBin (binD T c .Mod) (xBi bInt (aCons (xBin (binD T c .Add) (xBin (binD T c .Pow) (xVar 5) (xK (.int 11))) (xBin (binD T c .Mult) (xBin (binD T c .Mult) (xBin (binD T c .Mult) (xK (.int 15485863)) (xVar 2)) (xVar 5)) (xVar 5))) aNil)) (xBin (binD T c .Add) (xBin (binD T c .Pow) (xK (.int 10)) (xK (.int 47))) (xK (.int 9))))) (sIf (tAnd (tOf (truD T c) (xBin (ordD T c .GtE) (xVar 4) (xBin (binD T c .Pow) (xK (.int 10)) (xK (.int 18))))) (tOf (truD T c) (xBin (ordD T c .Lt) (xVar 2) (xVar 3)))) (sPut (xVar 0) (xK (.str "rest")) (xBin (binD T c .Sub) (xVar 4) (xBin (binD T c .Pow) (xK (.int 10)) (xK (.int 18))))) sNx)))))) sNx) (sSeq (sAsg (xTup (aCons (xBin (binD T c .Mod) (xBi bInt (aCons (xBin subD (xVar 0) (xK (.str "rest"))) aNil)) (xVar 1)) (aCons (xBin (binD T c .FloorDiv) (xBin subD (xVar 0) (xK (.str "rest"))) (xVar 1)) aNil))) (gTp (gsCons (gNm 6) (gsCons (gPut (xVar 0) (xK (.str "rest"))) gsNil)))) (sRet (xVar 6))))
noncomputable def B_6 (c : Fn) : Fs := (sRet (xBin subD (xVar 1) (xCall T c 5 (aCons (xVar 0) (aCons (xBi bLen (aCons (xVar 1) aNil)) aNil)))))
noncomputable def B_7 (c : Fn) : Fs := (sRet (xBi bInt (aCons (xBin (binD T c .Add) (xK (.str "1")) (xBin (binD T c .Mult) (xK (.str "0")) (xVar 0))) aNil)))
noncomputable def B_8 (c : Fn) : Fs := (sSeq (sAsg (xK (.int 0)) (gNm 2)) (sSeq (sFor (iRng (aCons (xBin (binD T c .FloorDiv) (xBin (binD T c .Add) (xVar 1) (xK (.int 14))) (xK (.int 15))) aNil)) (gNm 3) (sAsg (xBin (binD T c .Add) (xBin (binD T c .Mult) (xVar 2) (xBin (binD T c .Pow) (xK (.int 10)) (xK (.int 15)))) (xCall T c 5 (aCons (xVar 0) (aCons (xBin (binD T c .Pow) (xK (.int 10)) (xK (.int 15))) aNil)))) (gNm 2))) (sRet (xBin (binD T c .Mod) (xBi bInt (aCons (xVar 2) aNil)) (xCall T c 7 (aCons (xVar 1) aNil))))))
noncomputable def B_9 (c : Fn) : Fs := (sSeq (sAsg (xCall T c 5 (aCons (xVar 0) (aCons (xK (.int 6)) aNil))) (gNm 2)) (sSeq (sIf (tOf (truD T c) (xBin (ordD T c .Lt) (xVar 2) (xK (.int 3)))) (sRet (xCall T c 5 (aCons (xVar 0) (aCons (xBin subD (xLst (aCons (xK (.int 5)) (aCons (xK (.int 13)) (aCons (xK (.int 90)) aNil)))) (xVar 2)) aNil)))) sNx) (sSeq (sIf (tOf (truD T c) (xBin (eqB T c false) (xVar 2) (xK (.int 3)))) (sRet (xCall T c 8 (aCons (xVar 0) (aCons (xBin (binD T c .Add) (xK (.int 1)) (xCall T c 5 (aCons (xVar 0) (aCons (xVar 1) aNil)))) aNil)))) sNx) (sSeq (sIf (tOf (truD T c) (xBin (eqB T c false) (xVar 2) (xK (.int 4)))) (sRet (xCall T c 8 (aCons (xVar 0) (aCons (xVar 1) aNil)))) sNx) (sRet (xBi bMax (aCons (xK (.int 0)) (aCons (xBin (binD T c .Sub) (xBin (binD T c .Sub) (xCall T c 7 (aCons (xBin (binD T c .Add) (xK (.int 1)) (xCall T c 5 (aCons (xVar 0) (aCons (xVar 1) aNil)))) aNil)) (xCall T c 5 (aCons (xVar 0) (aCons (xK (.int 4)) aNil)))) (xK (.int 1))) aNil))))))))
noncomputable def B_10 (c : Fn) : Fs := (sSeq (sAsg (xCall T c 9 (aCons (xVar 0) (aCons (xVar 1) aNil))) (gNm 2)) (sRet (xIf (tOf (truD T c) (xCall T c 5 (aCons (xVar 0) (aCons (xK (.int 2)) aNil)))) (xUn (negD T c) (xVar 2)) (xVar 2))))
noncomputable def B_11 (c : Fn) : Fs := (sSeq (sPar 0 1 (aCons (xBi bAbs (aCons (xVar 0) aNil)) (aCons (xBi bAbs (aCons (xVar 1) aNil)) aNil))) (sSeq (sFor (iRng (aCons (xBin (binD T c .Pow) (xK (.int 10)) (xK (.int 6))) aNil)) (gNm 2) (sSeq (sIf (tOf (truD T c) (xBin (eqB T c false) (xVar 1) (xK (.int 0)))) sBk sNx) (sPar 0 1 (aCons (xVar 1) (aCons (xBin (binD T c .Mod) (xBi bInt (aCons (xVar 0) aNil)) (xVar 1)) aNil))))) (sRet (xVar 0))))
noncomputable def B_12 (c : Fn) : Fs := (sRet (xIf (tOf (truD T c) (xVar 1)) (xBin (isNo false) (xVar 0) (xK (.bl true))) (xBin (isNo false) (xVar 0) (xK (.bl false)))))
noncomputable def B_13 (c : Fn) : Fs := (sSeq (sAsg (xK (.int 1)) (gNm 2)) (sSeq (sFor (iRng (aCons (xVar 1) aNil)) (gNm 3) (sAsg (xBin (binD T c .Mult) (xVar 2) (xVar 0)) (gNm 2))) (sRet (xVar 2))))
noncomputable def B_14 (c : Fn) : Fs := (sRet (xAnd (truD T c) (xIst T "int" (xVar 0)) (xAnd (truD T c) (xNot (truD T c) (xIst T "bool" (xVar 0))) (xBin (eqB T c false) (xVar 0) (xVar 1)))))
noncomputable def B_15 (c : Fn) : Fs := (sSeq (sIf (tOr (tNot (tOf (truD T c) (xIso T 0 (xVar 0)))) (tOr (tNot (tOf (truD T c) (xCall T c 14 (aCons (xFld T c 41 (xVar 0)) (aCons (xFld T c 41 (xVar 0)) aNil))))) (tOf (truD T c) (xBin (ordD T c .Lt) (xFld T c 41 (xVar 0)) (xK (.int 1)))))) (sRet (xK (.bl false))) sNx) (sSeq (sIf (tOr (tNot (tOf (truD T c) (xCall T c 14 (aCons (xFld T c 40 (xVar 0)) (aCons (xFld T c 40 (xVar 0)) aNil))))) (tOf (truD T c) (xBin (eqB T c true) (xCall T c 11 (aCons (xFld T c 40 (xVar 0)) (aCons (xFld T c 41 (xVar 0)) aNil))) (xK (.int 1))))) (sRet (xK (.bl false))) sNx) (sRet (xBin (eqB T c false) (xBin (binD T c .Mult) (xFld T c 40 (xVar 0)) (xVar 2)) (xBin (binD T c .Mult) (xVar 1) (xFld T c 41 (xVar 0)))))))
noncomputable def B_16 (c : Fn) : Fs := (sRet (xTup (aCons (xCall T c 10 (aCons (xVar 0) (aCons (xK (.int 80)) aNil))) (aCons (xBin (binD T c .Add) (xK (.int 1)) (xCall T c 9 (aCons (xVar 0) (aCons (xK (.int 79)) aNil)))) aNil))))
noncomputable def B_17 (c : Fn) : Fs := (sSeq (sAsg (xTup (aCons (xK (.str "fine")) (aCons (xK .non) aNil))) (gNm 1)) (sSeq sNo (sRet (xVar 1))))
noncomputable def B_18 (c : Fn) : Fs := (sSeq (sAsg (xTup (aCons (xBin subD (xVar 0) (xK (.int 0))) (aCons (xBin subD (xVar 0) (xK (.int 1))) (aCons (xBin subD (xVar 1) (xK (.int 0))) (aCons (xBin subD (xVar 1) (xK (.int 1))) aNil))))) (gTp (gsCons (gNm 4) (gsCons (gNm 5) (gsCons (gNm 6) (gsCons (gNm 7) gsNil)))))) (sSeq (sIf (tOr (tNot (tOf (truD T c) (xCall T c 15 (aCons (xBin (binD T c .Add) (xVar 2) (xVar 3)) (aCons (xBin (binD T c .Add) (xBin (binD T c .Mult) (xVar 4) (xVar 7)) (xBin (binD T c .Mult) (xVar 6) (xVar 5))) (aCons (xBin (binD T c .Mult) (xVar 5) (xVar 7)) aNil)))))) (tOr (tNot (tOf (truD T c) (xCall T c 15 (aCons (xBin (binD T c .Sub) (xVar 2) (xVar 3)) (aCons (xBin (binD T c .Sub) (xBin (binD T c .Mult) (xVar 4) (xVar 7)) (xBin (binD T c .Mult) (xVar 6) (xVar 5))) (aCons (xBin (binD T c .Mult) (xVar 5) (xVar 7)) aNil)))))) (tNot (tOf (truD T c) (xCall T c 15 (aCons (xBin (binD T c .Mult) (xVar 2) (xVar 3)) (aCons (xBin (binD T c .Mult) (xVar 4) (xVar 6)) (aCons (xBin (binD T c .Mult) (xVar 5) (xVar 7)) aNil)))))))) (sRet (xK (.bl false))) sNx) (sSeq (sIf (tOr (tNot (tOf (truD T c) (xCall T c 15 (aCons (xUn (negD T c) (xVar 2)) (aCons (xUn (negD T c) (xVar 4)) (aCons (xVar 5) aNil)))))) (tNot (tOf (truD T c) (xCall T c 15 (aCons (xBi (bAbsO T c) (aCons (xVar 2) aNil)) (aCons (xBi (bAbsO T c) (aCons (xVar 4) aNil)) (aCons (xVar 5) aNil))))))) (sRet (xK (.bl false))) sNx) (sRet (xAnd (truD T c) (xCall T c 14 (aCons (xMethW T c 43 (xVar 2) aNil) (aCons (xBin (binD T c .FloorDiv) (xVar 4) (xVar 5)) aNil))) (xCall T c 14 (aCons (xMethW T c 42 (xVar 2) aNil) (aCons (xUn (negD T c) (xBin (binD T c .FloorDiv) (xUn (negD T c) (xVar 4)) (xVar 5))) aNil))))))))
noncomputable def B_19 (c : Fn) : Fs := (sSeq (sAsg (xVar 0) (gTp (gsCons (gNm 3) (gsCons (gNm 4) gsNil)))) (sSeq (sIf (tOr (tNot (tOf (truD T c) (xCall T c 15 (aCons (xBin (binD T c .Add) (xVar 2) (xVar 1)) (aCons (xBin (binD T c .Add) (xVar 3) (xBin (binD T c .Mult) (xVar 1) (xVar 4))) (aCons (xVar 4) aNil)))))) (tNot (tOf (truD T c) (xCall T c 15 (aCons (xBin (binD T c .Add) (xVar 1) (xVar 2)) (aCons (xBin (binD T c .Add) (xVar 3) (xBin (binD T c .Mult) (xVar 1) (xVar 4))) (aCons (xVar 4) aNil))))))) (sRet (xK (.bl false))) sNx) (sSeq (sIf (tOr (tNot (tOf (truD T c) (xCall T c 15 (aCons (xBin (binD T c .Sub) (xVar 2) (xVar 1)) (aCons (xBin (binD T c .Sub) (xVar 3) (xBin (binD T c .Mult) (xVar 1) (xVar 4))) (aCons (xVar 4) aNil)))))) (tNot (tOf (truD T c) (xCall T c 15 (aCons (xBin (binD T c .Sub) (xVar 1) (xVar 2)) (aCons (xBin (binD T c .Sub) (xBin (binD T c .Mult) (xVar 1) (xVar 4)) (xVar 3)) (aCons (xVar 4) aNil))))))) (sRet (xK (.bl false))) sNx) (sSeq (sIf (tOr (tNot (tOf (truD T c) (xCall T c 15 (aCons (xBin (binD T c .Mult) (xVar 2) (xVar 1)) (aCons (xBin (binD T c .Mult) (xVar 3) (xVar 1)) (aCons (xVar 4) aNil)))))) (tNot (tOf (truD T c) (xCall T c 15 (aCons (xBin (binD T c .Mult) (xVar 1) (xVar 2)) (aCons (xBin (binD T c .Mult) (xVar 3) (xVar 1)) (aCons (xVar 4) aNil))))))) (sRet (xK (.bl false))) sNx) (sSeq (sAsg (xBin (binD T c .Mult) (xVar 1) (xVar 4)) (gNm 5)) (sSeq (sAsg (xLst (aCons (xTup (aCons (xBin (eqI T c) (xVar 2) (xVar 1)) (aCons (xBin (eqI T c) (xVar 3) (xVar 5)) aNil))) (aCons (xTup (aCons (xBin (eqI T c) (xVar 1) (xVar 2)) (aCons (xBin (eqI T c) (xVar 3) (xVar 5)) aNil))) (aCons (xTup (aCons (xBin (ordD T c .Lt) (xVar 2) (xVar 1)) (aCons (xBin (ordD T c .Lt) (xVar 3) (xVar 5)) aNil))) aNil)))) (gNm 6)) (sSeq (sAsg (xBin (binD T c .Add) (xVar 6) (xLst (aCons (xTup (aCons (xBin (ordD T c .Lt) (xVar 1) (xVar 2)) (aCons (xBin (ordD T c .Lt) (xVar 5) (xVar 3)) aNil))) (aCons (xTup (aCons (xBin (ordD T c .LtE) (xVar 2) (xVar 1)) (aCons (xBin (ordD T c .LtE) (xVar 3) (xVar 5)) aNil))) (aCons (xTup (aCons (xBin (ordD T c .LtE) (xVar 1) (xVar 2)) (aCons (xBin (ordD T c .LtE) (xVar 5) (xVar 3)) aNil))) aNil))))) (gNm 6)) (sSeq (sAsg (xBin (binD T c .Add) (xVar 6) (xLst (aCons (xTup (aCons (xBin (ordD T c .Gt) (xVar 2) (xVar 1)) (aCons (xBin (ordD T c .Gt) (xVar 3) (xVar 5)) aNil))) (aCons (xTup (aCons (xBin (ordD T c .Gt) (xVar 1) (xVar 2)) (aCons (xBin (ordD T c .Gt) (xVar 5) (xVar 3)) aNil))) (aCons (xTup (aCons (xBin (ordD T c .GtE) (xVar 2) (xVar 1)) (aCons (xBin (ordD T c .GtE) (xVar 3) (xVar 5)) aNil))) aNil))))) (gNm 6)) (sSeq (sFor (iSeq (xBin (binD T c .Add) (xVar 6) (xLst (aCons (xTup (aCons (xBin (ordD T c .GtE) (xVar 1) (xVar 2)) (aCons (xBin (ordD T c .GtE) (xVar 5) (xVar 3)) aNil))) aNil)))) (gTp (gsCons (gNm 7) (gsCons (gNm 8) gsNil))) (sIf (tNot (tOf (truD T c) (xCall T c 12 (aCons (xVar 7) (aCons (xVar 8) aNil))))) (sRet (xK (.bl false))) sNx)) (sRet (xK (.bl true))))))))))))
noncomputable def B_20 (c : Fn) : Fs := (sSeq (sPar 4 5 (aCons (xBin (binD T c .Mult) (xBin subD (xVar 0) (xK (.int 0))) (xBin subD (xVar 1) (xK (.int 1)))) (aCons (xBin (binD T c .Mult) (xBin subD (xVar 1) (xK (.int 0))) (xBin subD (xVar 0) (xK (.int 1)))) aNil))) (sSeq (sAsg (xLst (aCons (xTup (aCons (xBin (eqB T c false) (xVar 2) (xVar 3)) (aCons (xBin (eqB T c false) (xVar 4) (xVar 5)) aNil))) (aCons (xTup (aCons (xBin (eqB T c true) (xVar 2) (xVar 3)) (aCons (xBin (eqB T c true) (xVar 4) (xVar 5)) aNil))) (aCons (xTup (aCons (xBin (ordD T c .Lt) (xVar 2) (xVar 3)) (aCons (xBin (ordD T c .Lt) (xVar 4) (xVar 5)) aNil))) aNil)))) (gNm 6)) (sSeq (sAsg (xBin (binD T c .Add) (xVar 6) (xLst (aCons (xTup (aCons (xBin (ordD T c .LtE) (xVar 2) (xVar 3)) (aCons (xBin (ordD T c .LtE) (xVar 4) (xVar 5)) aNil))) (aCons (xTup (aCons (xBin (ordD T c .Gt) (xVar 2) (xVar 3)) (aCons (xBin (ordD T c .Gt) (xVar 4) (xVar 5)) aNil))) (aCons (xTup (aCons (xBin (ordD T c .GtE) (xVar 2) (xVar 3)) (aCons (xBin (ordD T c .GtE) (xVar 4) (xVar 5)) aNil))) aNil))))) (gNm 6)) (sSeq (sFor (iSeq (xVar 6)) (gTp (gsCons (gNm 7) (gsCons (gNm 8) gsNil))) (sIf (tNot (tOf (truD T c) (xCall T c 12 (aCons (xVar 7) (aCons (xVar 8) aNil))))) (sRet (xK (.bl false))) sNx)) (sRet (xK (.bl true)))))))
noncomputable def B_21 (c : Fn) : Fs := (sSeq (sAsg (xTup (aCons (xBin subD (xVar 0) (xK (.int 0))) (aCons (xBin subD (xVar 0) (xK (.int 1))) (aCons (xBin subD (xVar 1) (xK (.int 0))) (aCons (xBin subD (xVar 1) (xK (.int 1))) aNil))))) (gTp (gsCons (gNm 5) (gsCons (gNm 6) (gsCons (gNm 7) (gsCons (gNm 8) gsNil)))))) (sSeq (sIf (tOf (truD T c) (xBin (eqB T c true) (xVar 7) (xK (.int 0)))) (sSeq (sAsg (xBin (binD T c .FloorDiv) (xBin (binD T c .Mult) (xVar 5) (xVar 8)) (xBin (binD T c .Mult) (xVar 6) (xVar 7))) (gNm 9)) (sSeq (sPar 10 11 (aCons (xBin (binD T c .Sub) (xBin (binD T c .Mult) (xVar 5) (xVar 8)) (xBin (binD T c .Mult) (xBin (binD T c .Mult) (xVar 9) (xVar 7)) (xVar 6))) (aCons (xMethW T c 44 (xVar 3) (aCons (xVar 4) aNil)) aNil))) (sSeq (sIf (tOr (tNot (tOf (truD T c) (xCall T c 14 (aCons (xBin (binD T c .FloorDiv) (xVar 3) (xVar 4)) (aCons (xVar 9) aNil))))) (tNot (tOf (truD T c) (xCall T c 15 (aCons (xBin (binD T c .Mod) (xVar 3) (xVar 4)) (aCons (xVar 10) (aCons (xBin (binD T c .Mult) (xVar 6) (xVar 8)) aNil))))))) (sRet (xK (.bl false))) sNx) (sIf (tNot (tOf (truD T c) (xCall T c 15 (aCons (xVar 11) (aCons (xBin (binD T c .Mult) (xVar 5) (xVar 8)) (aCons (xBin (binD T c .Mult) (xVar 6) (xVar 7)) aNil)))))) (sRet (xK (.bl false))) sNx)))) sNx) (sSeq (sIf (tOf (truD T c) (xBin (eqB T c true) (xVar 2) (xK (.int 0)))) (sSeq (sAsg (xBin (binD T c .FloorDiv) (xVar 5) (xBin (binD T c .Mult) (xVar 6) (xVar 2))) (gNm 9)) (sSeq (sPar 10 11 (aCons (xBin (binD T c .Sub) (xVar 5) (xBin (binD T c .Mult) (xBin (binD T c .Mult) (xVar 9) (xVar 2)) (xVar 6))) (aCons (xMethW T c 44 (xVar 3) (aCons (xVar 2) aNil)) aNil))) (sSeq (sIf (tOr (tNot (tOf (truD T c) (xCall T c 14 (aCons (xBin (binD T c .FloorDiv) (xVar 3) (xVar 2)) (aCons (xVar 9) aNil))))) (tNot (tOf (truD T c) (xCall T c 15 (aCons (xBin (binD T c .Mod) (xVar 3) (xVar 2)) (aCons (xVar 10) (aCons (xVar 6) aNil))))))) (sRet (xK (.bl false))) sNx) (sIf (tNot (tOf (truD T c) (xCall T c 15 (aCons (xVar 11) (aCons (xVar 5) (aCons (xBin (binD T c .Mult) (xVar 6) (xVar 2)) aNil)))))) (sRet (xK (.bl false))) sNx)))) sNx) (sSeq (sIf (tOf (truD T c) (xBin (eqB T c true) (xVar 5) (xK (.int 0)))) (sSeq (sAsg (xBin (binD T c .FloorDiv) (xBin (binD T c .Mult) (xVar 2) (xVar 6)) (xVar 5)) (gNm 9)) (sSeq (sPar 10 12 (aCons (xBin (binD T c .Sub) (xBin (binD T c .Mult) (xVar 2) (xVar 6)) (xBin (binD T c .Mult) (xVar 9) (xVar 5))) (aCons (xBin (binD T c .Mod) (xVar 2) (xVar 3)) aNil))) (sIf (tOr (tNot (tOf (truD T c) (xCall T c 14 (aCons (xBin (binD T c .FloorDiv) (xVar 2) (xVar 3)) (aCons (xVar 9) aNil))))) (tNot (tOf (truD T c) (xCall T c 15 (aCons (xVar 12) (aCons (xVar 10) (aCons (xVar 6) aNil))))))) (sRet (xK (.bl false))) sNx))) sNx) (sRet (xK (.bl true)))))))
noncomputable def B_22 (c : Fn) : Fs := (sSeq (sAsg (xVar 0) (gTp (gsCons (gNm 2) (gsCons (gNm 3) gsNil)))) (sSeq (sAsg (xLst (aCons (xTup (aCons (xBin (binD T c .Pow) (xVar 1) (xK (.int 0))) (aCons (xK (.int 0)) aNil))) (aCons (xTup (aCons (xBin (binD T c .Pow) (xVar 1) (xK (.int 1))) (aCons (xK (.int 1)) aNil))) (aCons (xTup (aCons (xBin (binD T c .Pow) (xVar 1) (xK (.int 2))) (aCons (xK (.int 2)) aNil))) (aCons (xTup (aCons (xBin (binD T c .Pow) (xVar 1) (xK (.int 3))) (aCons (xK (.int 3)) aNil))) (aCons (xTup (aCons (xBin (binD T c .Pow) (xVar 1) (xK (.int 7))) (aCons (xK (.int 7)) aNil))) aNil)))))) (gNm 4)) (sSeq (sFor (iSeq (xSl (xVar 4) oNo (oSo (xCall T c 23 (aCons (xVar 0) aNil))))) (gTp (gsCons (gNm 5) (gsCons (gNm 6) gsNil))) (sIf (tNot (tOf (truD T c) (xCall T c 15 (aCons (xVar 5) (aCons (xCall T c 13 (aCons (xVar 2) (aCons (xVar 6) aNil))) (aCons (xCall T c 13 (aCons (xVar 3) (aCons (xVar 6) aNil))) aNil)))))) (sRet (xK (.bl false))) sNx)) (sSeq (sIf (tOr (tNot (tOf (truD T c) (xCall T c 12 (aCons (xBi (bBool T c) (aCons (xVar 1) aNil)) (aCons (xBin (eqB T c true) (xVar 2) (xK (.int 0))) aNil))))) (tNot (tOf (truD T c) (xCall T c 14 (aCons (xMethW T c 45 (xVar 1) aNil) (aCons (xBin (binD T c .Sub) (xBi bInt (aCons (xBin (ordD T c .Gt) (xVar 2) (xK (.int 0))) aNil)) (xBi bInt (aCons (xBin (ordD T c .Lt) (xVar 2) (xK (.int 0))) aNil))) aNil)))))) (sRet (xK (.bl false))) sNx) (sSeq (sAsg (xCall T c 11 (aCons (xVar 2) (aCons (xVar 3) aNil))) (gNm 7)) (sSeq (sAsg (xIf (tOf (truD T c) (xBin (eqB T c false) (xVar 3) (xVar 7))) (xBi (bStrO T c) (aCons (xBin (binD T c .FloorDiv) (xVar 2) (xVar 7)) aNil)) (xBin (binD T c .Add) (xBin (binD T c .Add) (xBi (bStrO T c) (aCons (xBin (binD T c .FloorDiv) (xVar 2) (xVar 7)) aNil)) (xK (.str "/"))) (xBi (bStrO T c) (aCons (xBin (binD T c .FloorDiv) (xVar 3) (xVar 7)) aNil)))) (gNm 8)) (sSeq (sIf (tOr (tOf (truD T c) (xBin (eqB T c false) (xVar 1) (xVar 8))) (tOr (tOf (truD T c) (xBin (eqB T c false) (xVar 1) (xK .non))) (tOr (tOf (truD T c) (xBin (eqB T c false) (xVar 1) (xTup (aCons (xFld T c 40 (xVar 1)) (aCons (xFld T c 41 (xVar 1)) aNil))))) (tNot (tOf (truD T c) (xBin (eqB T c true) (xVar 1) (xK (.str "5")))))))) (sRet (xK (.bl false))) sNx) (sSeq (sIf (tOr (tOf (truD T c) (xBin (eqB T c true) (xBi (bStrO T c) (aCons (xVar 1) aNil)) (xVar 8))) (tNot (tOf (truD T c) (xCall T c 12 (aCons (xMethW T c 46 (xVar 1) aNil) (aCons (xBin (eqB T c false) (xVar 3) (xVar 7)) aNil)))))) (sRet (xK (.bl false))) sNx) (sRet (xAnd (truD T c) (xCall T c 15 (aCons (xCall T c 3 (aCons (xVar 1) aNil)) (aCons (xVar 2) (aCons (xVar 3) aNil)))) (xCall T c 15 (aCons (xCall T c 3 (aCons (xVar 2) aNil)) (aCons (xVar 2) (aCons (xK (.int 1)) aNil))))))))))))))
noncomputable def B_23 (c : Fn) : Fs := (sRet (xIf (tOf (truD T c) (xBin (ordD T c .Lt) (xBin (binD T c .Add) (xBi bAbs (aCons (xBin subD (xVar 0) (xK (.int 0))) aNil)) (xBin subD (xVar 0) (xK (.int 1)))) (xBin (binD T c .Pow) (xK (.int 10)) (xK (.int 30))))) (xK (.int 5)) (xK (.int 4))))
def lf_24_0 : LF := lfOf ((d_24.qual ++ ".<locals>.") ++ "<lambda>") (pE [0] (pX (pSs [3] (defBody s_24))))
def lf_24_1 : LF := lfOf ((d_24.qual ++ ".<locals>.") ++ "<lambda>") (pE [1] (pX (pSs [3] (defBody s_24))))
def lf_24_2 : LF := lfOf ((d_24.qual ++ ".<locals>.") ++ "<lambda>") (pE [2] (pX (pSs [3] (defBody s_24))))
def lf_24_3 : LF := lfOf ((d_24.qual ++ ".<locals>.") ++ "<lambda>") (pE [3] (pX (pSs [3] (defBody s_24))))
def lf_24_4 : LF := lfOf ((d_24.qual ++ ".<locals>.") ++ "<lambda>") (pE [4] (pX (pSs [3] (defBody s_24))))
def lf_24_5 : LF := lfOf ((d_24.qual ++ ".<locals>.") ++ "<lambda>") (pE [5] (pX (pSs [3] (defBody s_24))))
def lf_24_6 : LF := lfOf ((d_24.qual ++ ".<locals>.") ++ "<lambda>") (pE [0] (pX (pSs [5] (defBody s_24))))
def lf_24_7 : LF := lfOf ((d_24.qual ++ ".<locals>.") ++ "<lambda>") (pE [1] (pX (pSs [5] (defBody s_24))))
def lf_24_8 : LF := lfOf ((d_24.qual ++ ".<locals>.") ++ "<lambda>") (pE [2] (pX (pSs [5] (defBody s_24))))
def lf_24_9 : LF := lfOf ((d_24.qual ++ ".<locals>.") ++ "<lambda>") (pE [3] (pX (pSs [5] (defBody s_24))))
def lf_24_10 : LF := lfOf ((d_24.qual ++ ".<locals>.") ++ "<lambda>") (pE [4] (pX (pSs [5] (defBody s_24))))
def lf_24_11 : LF := lfOf ((d_24.qual ++ ".<locals>.") ++ "<lambda>") (pE [0] (pX (pSs [7] (defBody s_24))))
def lf_24_12 : LF := lfOf ((d_24.qual ++ ".<locals>.") ++ "<lambda>") (pE [1] (pX (pSs [7] (defBody s_24))))
def lf_24_13 : LF := lfOf ((d_24.qual ++ ".<locals>.") ++ "<lambda>") (pE [2] (pX (pSs [7] (defBody s_24))))
def lf_24_14 : LF := lfOf ((d_24.qual ++ ".<locals>.") ++ "<lambda>") (pE [3] (pX (pSs [7] (defBody s_24))))
noncomputable def bs_24 (c : Fn) : List (LF × Fe) := [(lf_24_0, (xMk T c 0 (aCons (xVar 3) (aCons (xK (.int 3)) aNil)))), (lf_24_1, (xMk T c 0 (aCons (xK (.int 3)) (aCons (xVar 3) aNil)))), (lf_24_2, (xCall T c 3 (aCons (xVar 3) aNil))), (lf_24_3, (xMethW T c 44 (xVar 2) (aCons (xVar 3) aNil))), (lf_24_4, (xMk T c 0 (aCons (xVar 3) (aCons (xK (.int 0)) aNil)))), (lf_24_5, (xMk T c 0 (aCons (xVar 4) (aCons (xK (.int 0)) aNil)))), (lf_24_6, (xMethW T c 44 (xVar 2) (aCons (xVar 5) aNil))), (lf_24_7, (xBin (binD T c .FloorDiv) (xVar 2) (xVar 5))), (lf_24_8, (xBin (binD T c .Mod) (xVar 2) (xVar 5))), (lf_24_9, (xBin (binD T c .FloorDiv) (xVar 4) (xMk T c 0 (aCons (xK (.int 0)) aNil)))), (lf_24_10, (xBin (binD T c .Mod) (xVar 4) (xMk T c 0 (aCons (xK (.int 0)) (aCons (xK (.int 5)) aNil))))), (lf_24_11, (xMethW T c 44 (xVar 2) (aCons (xBin subD (xVar 1) (xK (.int 1))) aNil))), (lf_24_12, (xBin (binD T c .Pow) (xMk T c 0 (aCons (xK (.int 0)) (aCons (xK (.int 3)) aNil))) (xK (.int 2)))), (lf_24_13, (xBin (binD T c .FloorDiv) (xMk T c 0 (aCons (xK (.int 0)) aNil)) (xMk T c 0 (aCons (xK (.int 1)) (aCons (xK (.int 3)) aNil))))), (lf_24_14, (xBin (binD T c .Pow) (xMk T c 0 (aCons (xK (.int 0)) aNil)) (xK (.int 0))))]
noncomputable def B_24 (c gc : Fn) (γ : List (Str × Addr)) : Fs := (sSeq (sAsg (xCall T c 6 (aCons (xVar 0) (aCons (xLst (aCons (xK .non) (aCons (xK (.bl true)) (aCons (xK (.bl false)) (aCons (xK (.str "1")) (aCons (xLst aNil) (aCons (xTup (aCons (xK (.int 1)) (aCons (xK (.int 2)) aNil))) (aCons (xK (.str "1/2")) aNil)))))))) aNil))) (gNm 3)) (sSeq (sAsg (xCall T c 10 (aCons (xVar 0) (aCons (xK (.int 40)) aNil))) (gNm 4)) (sSeq (sAsg (xCall T c 6 (aCons (xVar 0) (aCons (xLst (aCons (xK (.int 0)) (aCons (xMk T c 0 (aCons (xK (.int 0)) aNil)) (aCons (xMk T c 0 (aCons (xK (.int 0)) (aCons (xK (.int 7)) aNil))) aNil)))) aNil))) (gNm 5)) (sSeq (sAsg (xLst (aCons (xClo 0 lf_24_0 γ) (aCons (xClo 1 lf_24_1 γ) (aCons (xClo 2 lf_24_2 γ) (aCons (xClo 3 lf_24_3 γ) (aCons (xClo 4 lf_24_4 γ) (aCons (xClo 5 lf_24_5 γ) aNil))))))) (gNm 6)) (sSeq (sFor (iRng (aCons (xK (.int 6)) aNil)) (gNm 7) (sSeq (sAsg (xLamV hs_17 (.tup [(.str "fine"), .non]) (bs_24 c) γ [] (xBin subD (xVar 6) (xVar 7))) (gNm 8)) (sIf (tOr (tOf (truD T c) (xBin (eqB T c true) (xBin subD (xVar 8) (xK (.int 0))) (xK (.str "refused")))) (tOf (truD T c) (xBin (eqB T c true) (xBi bRepr (aCons (xBin subD (xVar 8) (xK (.int 1))) aNil)) (xBi bRepr (aCons (xIf (tOf (truD T c) (xBin (ordD T c .Lt) (xVar 7) (xK (.int 5)))) (xVar 3) (xK (.int 0))) aNil))))) (sRet (xK (.bl false))) sNx))) (sSeq (sAsg (xLst (aCons (xClo 6 lf_24_6 γ) (aCons (xClo 7 lf_24_7 γ) (aCons (xClo 8 lf_24_8 γ) (aCons (xClo 9 lf_24_9 γ) (aCons (xClo 10 lf_24_10 γ) aNil)))))) (gNm 6)) (sSeq (sFor (iSeq (xVar 6)) (gNm 9) (sSeq (sAsg (xLamV hs_17 (.tup [(.str "fine"), .non]) (bs_24 c) γ [] (xVar 9)) (gNm 8)) (sIf (tOr (tOf (truD T c) (xBin (eqB T c true) (xBin subD (xVar 8) (xK (.int 0))) (xK (.str "refused")))) (tOr (tNot (tOf (truD T c) (xBin (eqB T c false) (xBin subD (xVar 8) (xK (.int 1))) (xK (.int 0))))) (tOf (truD T c) (xIst T "bool" (xBin subD (xVar 8) (xK (.int 1))))))) (sRet (xK (.bl false))) sNx))) (sSeq (sAsg (xLst (aCons (xClo 11 lf_24_11 γ) (aCons (xClo 12 lf_24_12 γ) (aCons (xClo 13 lf_24_13 γ) (aCons (xClo 14 lf_24_14 γ) aNil))))) (gNm 6)) (sRet (xBin (eqB T c false) (xLc (iSeq (xVar 6)) (gNm 9) tTrue (xBin subT (xLamV hs_17 (.tup [(.str "fine"), .non]) (bs_24 c) γ [9] (xVar 9)) (xK (.int 0))) [9]) (xBin (binD T c .Mult) (xLst (aCons (xK (.str "fine")) aNil)) (xK (.int 4)))))))))))))
noncomputable def B_25 (c gc : Fn) : Fs := (sSeq (sAsg (xCall T c 4 (aCons (xVar 0) aNil)) (gNm 1)) (sSeq (sPar 2 3 (aCons (xCall T c 16 (aCons (xVar 1) aNil)) (aCons (xCall T c 16 (aCons (xVar 1) aNil)) aNil))) (sSeq (sIf (tOf (truD T c) (xBin (eqB T c false) (xCall T c 5 (aCons (xVar 1) (aCons (xK (.int 4)) aNil))) (xK (.int 0)))) (sAsg (xTup (aCons (xBin (binD T c .Sub) (xBin (binD T c .Add) (xBin (binD T c .Mult) (xBin subD (xVar 2) (xK (.int 0))) (xK (.int 3))) (xCall T c 5 (aCons (xVar 1) (aCons (xK (.int 3)) aNil)))) (xK (.int 1))) (aCons (xBin (binD T c .Mult) (xBin subD (xVar 2) (xK (.int 1))) (xK (.int 3))) aNil))) (gNm 3)) sNx) (sSeq (sAsg (xCall T c 10 (aCons (xVar 1) (aCons (xK (.int 100)) aNil))) (gNm 4)) (sSeq (sIf (tOf (truD T c) (xBin (eqB T c false) (xCall T c 5 (aCons (xVar 1) (aCons (xK (.int 3)) aNil))) (xK (.int 0)))) (sAsg (xBin (binD T c .Sub) (xBin (binD T c .Add) (xBin (binD T c .FloorDiv) (xBin subD (xVar 2) (xK (.int 0))) (xBin subD (xVar 2) (xK (.int 1)))) (xCall T c 5 (aCons (xVar 1) (aCons (xK (.int 3)) aNil)))) (xK (.int 1))) (gNm 4)) sNx) (sSeq (sAsg (xCall T c 6 (aCons (xVar 1) (aCons (xLst (aCons (xK (.int 1)) (aCons (xUn (negD T c) (xK (.int 1))) (aCons (xK (.int 6)) (aCons (xUn (negD T c) (xK (.int 35))) (aCons (xUn (negD T c) (xBin (binD T c .Pow) (xK (.int 10)) (xK (.int 19)))) aNil)))))) aNil))) (gNm 5)) (sSeq (sPar 6 7 (aCons (xMk T c 0 (aCons (xBin (binD T c .Mult) (xBin subD (xVar 2) (xK (.int 0))) (xVar 5)) (aCons (xBin (binD T c .Mult) (xBin subD (xVar 2) (xK (.int 1))) (xVar 5)) aNil))) (aCons (xMk T c 0 (aCons (xUn (negD T c) (xBin subD (xVar 3) (xK (.int 0)))) (aCons (xUn (negD T c) (xBin subD (xVar 3) (xK (.int 1)))) aNil))) aNil))) (sSeq (sIf (tOr (tNot (tOf (truD T c) (xCall T c 15 (aCons (xVar 6) (aCons (xBin subD (xVar 2) (xK (.int 0))) (aCons (xBin subD (xVar 2) (xK (.int 1))) aNil)))))) (tOr (tNot (tOf (truD T c) (xCall T c 15 (aCons (xVar 7) (aCons (xBin subD (xVar 3) (xK (.int 0))) (aCons (xBin subD (xVar 3) (xK (.int 1))) aNil)))))) (tNot (tOf (truD T c) (xCall T c 15 (aCons (xMk T c 0 (aCons (xVar 4) aNil)) (aCons (xVar 4) (aCons (xK (.int 1)) aNil)))))))) (sRet (xK (.bl false))) sNx) (sSeq (sIf (tOr (tNot (tOf (truD T c) (xCall T c 18 (aCons (xVar 2) (aCons (xVar 3) (aCons (xVar 6) (aCons (xVar 7) aNil))))))) (tOr (tNot (tOf (truD T c) (xCall T c 19 (aCons (xVar 2) (aCons (xVar 4) (aCons (xVar 6) aNil)))))) (tNot (tOf (truD T c) (xCall T c 20 (aCons (xVar 2) (aCons (xVar 3) (aCons (xVar 6) (aCons (xVar 7) aNil))))))))) (sRet (xK (.bl false))) sNx) (sSeq (sIf (tOr (tNot (tOf (truD T c) (xCall T c 21 (aCons (xVar 2) (aCons (xVar 3) (aCons (xVar 4) (aCons (xVar 6) (aCons (xVar 7) aNil)))))))) (tNot (tOf (truD T c) (xCall T c 22 (aCons (xVar 2) (aCons (xVar 6) aNil)))))) (sRet (xK (.bl false))) sNx) (sSeq (sIf (tNot (tOf (truD T c) (xCallP (gc 24) (aCons (xVar 1) (aCons (xVar 2) (aCons (xVar 6) aNil)))))) (sRet (xK (.bl false))) sNx) (sRet (xAnd (truD T c) (xCall T c 15 (aCons (xVar 6) (aCons (xBin subD (xVar 2) (xK (.int 0))) (aCons (xBin subD (xVar 2) (xK (.int 1))) aNil)))) (xCall T c 15 (aCons (xVar 7) (aCons (xBin subD (xVar 3) (xK (.int 0))) (aCons (xBin subD (xVar 3) (xK (.int 1))) aNil)))))))))))))))))
noncomputable def B_26 (c : Fn) : Fs := (sSeq (sFor (iSeq (xTup (aCons (xVar 1) (aCons (xVar 2) aNil)))) (gNm 3) (sIf (tOr (tNot (tOf (truD T c) (xIst T "int" (xVar 3)))) (tOf (truD T c) (xIst T "bool" (xVar 3)))) (sRaise 1 (aCons (xVar 3) aNil)) sNx)) (sSeq (sIf (tOf (truD T c) (xBin (eqB T c false) (xVar 2) (xK (.int 0)))) (sRaise 1 (aCons (xVar 2) aNil)) sNx) (sSeq (sAsg (xCall T c 1 (aCons (xVar 1) (aCons (xVar 2) aNil))) (gNm 4)) (sSeq (sIf (tOf (truD T c) (xBin (ordD T c .Lt) (xVar 2) (xK (.int 0)))) (sAsg (xUn (negD T c) (xVar 4)) (gNm 4)) sNx) (sSeq (sFldD T 40 (xVar 0) (xBin (binD T c .FloorDiv) (xVar 1) (xVar 4))) (sFldD T 41 (xVar 0) (xBin (binD T c .FloorDiv) (xVar 2) (xVar 4))))))))
noncomputable def B_27 (c : Fn) : Fs := (sSeq (sIf (tNot (tOf (truD T c) (xCall T c 0 (aCons (xVar 1) aNil)))) (sRet (xK (.bl false))) sNx) (sSeq (sAsg (xCall T c 3 (aCons (xVar 1) aNil)) (gNm 1)) (sRet (xAnd (truD T c) (xBin (eqB T c false) (xFld T c 40 (xVar 0)) (xFld T c 40 (xVar 1))) (xBin (eqB T c false) (xFld T c 41 (xVar 0)) (xFld T c 41 (xVar 1)))))))
noncomputable def B_28 (c : Fn) : Fs := (sSeq (sIf (tNot (tOf (truD T c) (xCall T c 0 (aCons (xVar 1) aNil)))) sNo sNx) (sSeq (sAsg (xCall T c 3 (aCons (xVar 1) aNil)) (gNm 1)) (sRet (xBin (ordD T c .Lt) (xBin (binD T c .Mult) (xFld T c 40 (xVar 0)) (xFld T c 41 (xVar 1))) (xBin (binD T c .Mult) (xFld T c 40 (xVar 1)) (xFld T c 41 (xVar 0)))))))
noncomputable def B_29 (c : Fn) : Fs := (sSeq (sIf (tNot (tOf (truD T c) (xCall T c 0 (aCons (xVar 1) aNil)))) sNo sNx) (sSeq (sAsg (xCall T c 3 (aCons (xVar 1) aNil)) (gNm 1)) (sRet (xBin (ordD T c .LtE) (xBin (binD T c .Mult) (xFld T c 40 (xVar 0)) (xFld T c 41 (xVar 1))) (xBin (binD T c .Mult) (xFld T c 40 (xVar 1)) (xFld T c 41 (xVar 0)))))))
noncomputable def B_30 (c : Fn) : Fs := (sSeq (sIf (tNot (tOf (truD T c) (xCall T c 0 (aCons (xVar 1) aNil)))) sNo sNx) (sSeq (sAsg (xCall T c 3 (aCons (xVar 1) aNil)) (gNm 1)) (sRet (xBin (ordD T c .Gt) (xBin (binD T c .Mult) (xFld T c 40 (xVar 0)) (xFld T c 41 (xVar 1))) (xBin (binD T c .Mult) (xFld T c 40 (xVar 1)) (xFld T c 41 (xVar 0)))))))
noncomputable def B_31 (c : Fn) : Fs := (sSeq (sIf (tNot (tOf (truD T c) (xCall T c 0 (aCons (xVar 1) aNil)))) sNo sNx) (sSeq (sAsg (xCall T c 3 (aCons (xVar 1) aNil)) (gNm 1)) (sRet (xBin (ordD T c .GtE) (xBin (binD T c .Mult) (xFld T c 40 (xVar 0)) (xFld T c 41 (xVar 1))) (xBin (binD T c .Mult) (xFld T c 40 (xVar 1)) (xFld T c 41 (xVar 0)))))))
noncomputable def B_32 (c : Fn) : Fs := (sSeq (sIf (tNot (tOf (truD T c) (xCall T c 0 (aCons (xVar 1) aNil)))) sNo sNx) (sSeq (sAsg (xCall T c 3 (aCons (xVar 1) aNil)) (gNm 1)) (sRet (xMk T c 0 (aCons (xBin (binD T c .Add) (xBin (binD T c .Mult) (xFld T c 40 (xVar 0)) (xFld T c 41 (xVar 1))) (xBin (binD T c .Mult) (xFld T c 40 (xVar 1)) (xFld T c 41 (xVar 0)))) (aCons (xBin (binD T c .Mult) (xFld T c 41 (xVar 0)) (xFld T c 41 (xVar 1))) aNil))))))
noncomputable def B_33 (c : Fn) : Fs := (sSeq (sIf (tNot (tOf (truD T c) (xCall T c 0 (aCons (xVar 1) aNil)))) sNo sNx) (sRet (xMk T c 0 (aCons (xBin (binD T c .Add) (xFld T c 40 (xVar 0)) (xBin (binD T c .Mult) (xVar 1) (xFld T c 41 (xVar 0)))) (aCons (xFld T c 41 (xVar 0)) aNil)))))
noncomputable def B_34 (c : Fn) : Fs := (sSeq (sIf (tNot (tOf (truD T c) (xCall T c 0 (aCons (xVar 1) aNil)))) sNo sNx) (sSeq (sAsg (xCall T c 3 (aCons (xVar 1) aNil)) (gNm 1)) (sRet (xMk T c 0 (aCons (xBin (binD T c .Sub) (xBin (binD T c .Mult) (xFld T c 40 (xVar 0)) (xFld T c 41 (xVar 1))) (xBin (binD T c .Mult) (xFld T c 40 (xVar 1)) (xFld T c 41 (xVar 0)))) (aCons (xBin (binD T c .Mult) (xFld T c 41 (xVar 0)) (xFld T c 41 (xVar 1))) aNil))))))
noncomputable def B_35 (c : Fn) : Fs := (sSeq (sIf (tNot (tOf (truD T c) (xCall T c 0 (aCons (xVar 1) aNil)))) sNo sNx) (sRet (xMk T c 0 (aCons (xBin (binD T c .Sub) (xBin (binD T c .Mult) (xVar 1) (xFld T c 41 (xVar 0))) (xFld T c 40 (xVar 0))) (aCons (xFld T c 41 (xVar 0)) aNil)))))
noncomputable def B_36 (c : Fn) : Fs := (sSeq (sIf (tNot (tOf (truD T c) (xCall T c 0 (aCons (xVar 1) aNil)))) sNo sNx) (sSeq (sAsg (xCall T c 3 (aCons (xVar 1) aNil)) (gNm 1)) (sRet (xMk T c 0 (aCons (xBin (binD T c .Mult) (xFld T c 40 (xVar 0)) (xFld T c 40 (xVar 1))) (aCons (xBin (binD T c .Mult) (xFld T c 41 (xVar 0)) (xFld T c 41 (xVar 1))) aNil))))))
noncomputable def B_37 (c : Fn) : Fs := (sSeq (sIf (tNot (tOf (truD T c) (xCall T c 0 (aCons (xVar 1) aNil)))) sNo sNx) (sRet (xMk T c 0 (aCons (xBin (binD T c .Mult) (xVar 1) (xFld T c 40 (xVar 0))) (aCons (xFld T c 41 (xVar 0)) aNil)))))
noncomputable def B_38 (c : Fn) : Fs := (sSeq (sIf (tNot (tOf (truD T c) (xCall T c 0 (aCons (xVar 1) aNil)))) sNo sNx) (sRet (xMethW T c 43 (xMethW T c 44 (xVar 0) (aCons (xVar 1) aNil)) aNil)))
noncomputable def B_39 (c : Fn) : Fs := (sSeq (sIf (tNot (tOf (truD T c) (xCall T c 0 (aCons (xVar 1) aNil)))) sNo sNx) (sRet (xMethW T c 43 (xMethW T c 44 (xCall T c 3 (aCons (xVar 1) aNil)) (aCons (xVar 0) aNil)) aNil)))
noncomputable def B_40 (c : Fn) : Fs := (sSeq (sIf (tNot (tOf (truD T c) (xCall T c 0 (aCons (xVar 1) aNil)))) sNo sNx) (sSeq (sAsg (xMethW T c 43 (xMethW T c 44 (xVar 0) (aCons (xVar 1) aNil)) aNil) (gNm 2)) (sRet (xBin (binD T c .Sub) (xVar 0) (xBin (binD T c .Mult) (xVar 2) (xCall T c 3 (aCons (xVar 1) aNil)))))))
noncomputable def B_41 (c : Fn) : Fs := (sSeq (sIf (tNot (tOf (truD T c) (xCall T c 0 (aCons (xVar 1) aNil)))) sNo sNx) (sSeq (sAsg (xMethW T c 43 (xMethW T c 44 (xCall T c 3 (aCons (xVar 1) aNil)) (aCons (xVar 0) aNil)) aNil) (gNm 2)) (sRet (xBin (binD T c .Sub) (xVar 1) (xBin (binD T c .Mult) (xVar 2) (xVar 0))))))
noncomputable def B_42 (c : Fn) : Fs := (sSeq (sIf (tOr (tNot (tOf (truD T c) (xIst T "int" (xVar 1)))) (tOf (truD T c) (xIst T "bool" (xVar 1)))) sNo sNx) (sRet (xMk T c 0 (aCons (xCall T c 2 (aCons (xFld T c 40 (xVar 0)) (aCons (xVar 1) aNil))) (aCons (xCall T c 2 (aCons (xFld T c 41 (xVar 0)) (aCons (xVar 1) aNil))) aNil)))))
noncomputable def B_43 (c : Fn) : Fs := (sRet (xMk T c 0 (aCons (xUn (negD T c) (xFld T c 40 (xVar 0))) (aCons (xFld T c 41 (xVar 0)) aNil))))
noncomputable def B_44 (c : Fn) : Fs := (sRet (xMk T c 0 (aCons (xBi bAbs (aCons (xFld T c 40 (xVar 0)) aNil)) (aCons (xFld T c 41 (xVar 0)) aNil))))
noncomputable def B_45 (c : Fn) : Fs := (sRet (xBi (bBool T c) (aCons (xFld T c 40 (xVar 0)) aNil)))
noncomputable def B_46 (c : Fn) : Fs := (sSeq (sIf (tOf (truD T c) (xBin (eqB T c false) (xFld T c 41 (xVar 0)) (xK (.int 1)))) (sRet (xFmt (xFld T c 40 (xVar 0)))) sNx) (sRet (xJs3 (xFmt (xFld T c 40 (xVar 0))) (xK (.str "/")) (xFmt (xFld T c 41 (xVar 0))))))
noncomputable def B_47 (c : Fn) : Fs := (sSeq (sAsg (xCall T c 3 (aCons (xVar 1) aNil)) (gNm 2)) (sSeq (sIf (tOf (truD T c) (xBin (eqB T c false) (xFld T c 40 (xVar 2)) (xK (.int 0)))) (sRaise 1 (aCons (xVar 1) aNil)) sNx) (sRet (xMk T c 0 (aCons (xBin (binD T c .Mult) (xFld T c 40 (xVar 0)) (xFld T c 41 (xVar 2))) (aCons (xBin (binD T c .Mult) (xFld T c 41 (xVar 0)) (xFld T c 40 (xVar 2))) aNil))))))
noncomputable def B_48 (c : Fn) : Fs := (sRet (xBin (binD T c .FloorDiv) (xFld T c 40 (xVar 0)) (xFld T c 41 (xVar 0))))
noncomputable def B_49 (c : Fn) : Fs := (sRet (xUn (negD T c) (xBin (binD T c .FloorDiv) (xUn (negD T c) (xFld T c 40 (xVar 0))) (xFld T c 41 (xVar 0)))))
noncomputable def B_50 (c : Fn) : Fs := (sRet (xBin (eqB T c false) (xFld T c 41 (xVar 0)) (xK (.int 1))))
noncomputable def B_51 (c : Fn) : Fs := (sSeq (sIf (tOf (truD T c) (xBin (ordD T c .Gt) (xFld T c 40 (xVar 0)) (xK (.int 0)))) (sRet (xK (.int 1))) sNx) (sSeq (sIf (tOf (truD T c) (xBin (ordD T c .Lt) (xFld T c 40 (xVar 0)) (xK (.int 0)))) (sRet (xUn (negD T c) (xK (.int 1)))) sNx) (sRet (xK (.int 0)))))
noncomputable def bodies (c : Fn) : List (List D → Store → Res D) := [fnD 1 (B_0 c), fnD 2 (B_1 c), fnD 3 (B_2 c), fnD 1 (B_3 c), fnD 1 (B_4 c), fnD 7 (B_5 c), fnD 2 (B_6 c), fnD 1 (B_7 c), fnD 4 (B_8 c), fnD 3 (B_9 c), fnD 3 (B_10 c), fnD 3 (B_11 c), fnD 2 (B_12 c), fnD 4 (B_13 c), fnD 2 (B_14 c), fnD 3 (B_15 c), fnD 1 (B_16 c), fnD 3 (B_17 c), fnD 8 (B_18 c), fnD 9 (B_19 c), fnD 9 (B_20 c), fnD 13 (B_21 c), fnD 9 (B_22 c), fnD 1 (B_23 c), (fun _ _ => .stuck), (fun _ _ => .stuck), fnD 5 (B_26 c), fnD 2 (B_27 c), fnD 2 (B_28 c), fnD 2 (B_29 c), fnD 2 (B_30 c), fnD 2 (B_31 c), fnD 2 (B_32 c), fnD 2 (B_33 c), fnD 2 (B_34 c), fnD 2 (B_35 c), fnD 2 (B_36 c), fnD 2 (B_37 c), fnD 2 (B_38 c), fnD 2 (B_39 c), fnD 3 (B_40 c), fnD 3 (B_41 c), fnD 2 (B_42 c), fnD 1 (B_43 c), fnD 1 (B_44 c), fnD 1 (B_45 c), fnD 1 (B_46 c), fnD 3 (B_47 c), fnD 1 (B_48 c), fnD 1 (B_49 c), fnD 1 (B_50 c), fnD 1 (B_51 c)]
noncomputable def nis (c : Fn) : List (Nat × (List D → Store → Res D)) := []
noncomputable def run : Nat → Fn
  | 0 => fun _ _ _ => .stuck
  | n + 1 => pickF (bodies (run n)) (nis (run n))
noncomputable def runG : Nat → Fn
  | 0 => fun _ _ _ => .stuck
  | n + 1 => fun f => if f = 24 then fnG 10 (B_24 (run n) (runG n)) else if f = 25 then fnD 8 (B_25 (run n) (runG n)) else fun _ _ => .stuck
theorem runG_24 (n : Nat) : runG (n + 1) 24 = fnG 10 (B_24 (run n) (runG n)) := rfl
theorem runG_25 (n : Nat) : runG (n + 1) 25 = fnD 8 (B_25 (run n) (runG n)) := rfl
theorem run_0 (n : Nat) : run (n + 1) 0 = fnD 1 (B_0 (run n)) := rfl
theorem run_1 (n : Nat) : run (n + 1) 1 = fnD 2 (B_1 (run n)) := rfl
theorem run_2 (n : Nat) : run (n + 1) 2 = fnD 3 (B_2 (run n)) := rfl
theorem run_3 (n : Nat) : run (n + 1) 3 = fnD 1 (B_3 (run n)) := rfl
theorem run_4 (n : Nat) : run (n + 1) 4 = fnD 1 (B_4 (run n)) := rfl
theorem run_5 (n : Nat) : run (n + 1) 5 = fnD 7 (B_5 (run n)) := rfl
theorem run_6 (n : Nat) : run (n + 1) 6 = fnD 2 (B_6 (run n)) := rfl
theorem run_7 (n : Nat) : run (n + 1) 7 = fnD 1 (B_7 (run n)) := rfl
theorem run_8 (n : Nat) : run (n + 1) 8 = fnD 4 (B_8 (run n)) := rfl
theorem run_9 (n : Nat) : run (n + 1) 9 = fnD 3 (B_9 (run n)) := rfl
theorem run_10 (n : Nat) : run (n + 1) 10 = fnD 3 (B_10 (run n)) := rfl
theorem run_11 (n : Nat) : run (n + 1) 11 = fnD 3 (B_11 (run n)) := rfl
theorem run_12 (n : Nat) : run (n + 1) 12 = fnD 2 (B_12 (run n)) := rfl
theorem run_13 (n : Nat) : run (n + 1) 13 = fnD 4 (B_13 (run n)) := rfl
theorem run_14 (n : Nat) : run (n + 1) 14 = fnD 2 (B_14 (run n)) := rfl
theorem run_15 (n : Nat) : run (n + 1) 15 = fnD 3 (B_15 (run n)) := rfl
theorem run_16 (n : Nat) : run (n + 1) 16 = fnD 1 (B_16 (run n)) := rfl
theorem run_18 (n : Nat) : run (n + 1) 18 = fnD 8 (B_18 (run n)) := rfl
theorem run_19 (n : Nat) : run (n + 1) 19 = fnD 9 (B_19 (run n)) := rfl
theorem run_20 (n : Nat) : run (n + 1) 20 = fnD 9 (B_20 (run n)) := rfl
theorem run_21 (n : Nat) : run (n + 1) 21 = fnD 13 (B_21 (run n)) := rfl
theorem run_22 (n : Nat) : run (n + 1) 22 = fnD 9 (B_22 (run n)) := rfl
theorem run_23 (n : Nat) : run (n + 1) 23 = fnD 1 (B_23 (run n)) := rfl
theorem run_26 (n : Nat) : run (n + 1) 26 = fnD 5 (B_26 (run n)) := rfl
theorem run_27 (n : Nat) : run (n + 1) 27 = fnD 2 (B_27 (run n)) := rfl
theorem run_28 (n : Nat) : run (n + 1) 28 = fnD 2 (B_28 (run n)) := rfl
theorem run_29 (n : Nat) : run (n + 1) 29 = fnD 2 (B_29 (run n)) := rfl
theorem run_30 (n : Nat) : run (n + 1) 30 = fnD 2 (B_30 (run n)) := rfl
theorem run_31 (n : Nat) : run (n + 1) 31 = fnD 2 (B_31 (run n)) := rfl
theorem run_32 (n : Nat) : run (n + 1) 32 = fnD 2 (B_32 (run n)) := rfl
theorem run_33 (n : Nat) : run (n + 1) 33 = fnD 2 (B_33 (run n)) := rfl
theorem run_34 (n : Nat) : run (n + 1) 34 = fnD 2 (B_34 (run n)) := rfl
theorem run_35 (n : Nat) : run (n + 1) 35 = fnD 2 (B_35 (run n)) := rfl
theorem run_36 (n : Nat) : run (n + 1) 36 = fnD 2 (B_36 (run n)) := rfl
theorem run_37 (n : Nat) : run (n + 1) 37 = fnD 2 (B_37 (run n)) := rfl
theorem run_38 (n : Nat) : run (n + 1) 38 = fnD 2 (B_38 (run n)) := rfl
theorem run_39 (n : Nat) : run (n + 1) 39 = fnD 2 (B_39 (run n)) := rfl
theorem run_40 (n : Nat) : run (n + 1) 40 = fnD 3 (B_40 (run n)) := rfl
theorem run_41 (n : Nat) : run (n + 1) 41 = fnD 3 (B_41 (run n)) := rfl
theorem run_42 (n : Nat) : run (n + 1) 42 = fnD 2 (B_42 (run n)) := rfl
theorem run_43 (n : Nat) : run (n + 1) 43 = fnD 1 (B_43 (run n)) := rfl
theorem run_44 (n : Nat) : run (n + 1) 44 = fnD 1 (B_44 (run n)) := rfl
theorem run_45 (n : Nat) : run (n + 1) 45 = fnD 1 (B_45 (run n)) := rfl
theorem run_46 (n : Nat) : run (n + 1) 46 = fnD 1 (B_46 (run n)) := rfl
theorem run_47 (n : Nat) : run (n + 1) 47 = fnD 3 (B_47 (run n)) := rfl
theorem run_48 (n : Nat) : run (n + 1) 48 = fnD 1 (B_48 (run n)) := rfl
theorem run_49 (n : Nat) : run (n + 1) 49 = fnD 1 (B_49 (run n)) := rfl
theorem run_50 (n : Nat) : run (n + 1) 50 = fnD 1 (B_50 (run n)) := rfl
theorem run_51 (n : Nat) : run (n + 1) 51 = fnD 1 (B_51 (run n)) := rfl
@[simp] theorem cl_0_1 (c : Fn) (a0 : D) (st : Store) : callD T c 0 [a0] st = c 0 [a0] st := rfl
@[simp] theorem cl_1_2 (c : Fn) (a0 a1 : D) (st : Store) : callD T c 1 [a0, a1] st = c 1 [a0, a1] st := rfl
@[simp] theorem cl_2_2 (c : Fn) (a0 a1 : D) (st : Store) : callD T c 2 [a0, a1] st = c 2 [a0, a1] st := rfl
@[simp] theorem cl_3_1 (c : Fn) (a0 : D) (st : Store) : callD T c 3 [a0] st = c 3 [a0] st := rfl
@[simp] theorem cl_4_1 (c : Fn) (a0 : D) (st : Store) : callD T c 4 [a0] st = c 4 [a0] st := rfl
@[simp] theorem cl_5_2 (c : Fn) (a0 a1 : D) (st : Store) : callD T c 5 [a0, a1] st = c 5 [a0, a1] st := rfl
@[simp] theorem cl_6_2 (c : Fn) (a0 a1 : D) (st : Store) : callD T c 6 [a0, a1] st = c 6 [a0, a1] st := rfl
@[simp] theorem cl_7_1 (c : Fn) (a0 : D) (st : Store) : callD T c 7 [a0] st = c 7 [a0] st := rfl
@[simp] theorem cl_8_2 (c : Fn) (a0 a1 : D) (st : Store) : callD T c 8 [a0, a1] st = c 8 [a0, a1] st := rfl
@[simp] theorem cl_9_2 (c : Fn) (a0 a1 : D) (st : Store) : callD T c 9 [a0, a1] st = c 9 [a0, a1] st := rfl
@[simp] theorem cl_10_2 (c : Fn) (a0 a1 : D) (st : Store) : callD T c 10 [a0, a1] st = c 10 [a0, a1] st := rfl
@[simp] theorem cl_11_2 (c : Fn) (a0 a1 : D) (st : Store) : callD T c 11 [a0, a1] st = c 11 [a0, a1] st := rfl
@[simp] theorem cl_12_2 (c : Fn) (a0 a1 : D) (st : Store) : callD T c 12 [a0, a1] st = c 12 [a0, a1] st := rfl
@[simp] theorem cl_13_2 (c : Fn) (a0 a1 : D) (st : Store) : callD T c 13 [a0, a1] st = c 13 [a0, a1] st := rfl
@[simp] theorem cl_14_2 (c : Fn) (a0 a1 : D) (st : Store) : callD T c 14 [a0, a1] st = c 14 [a0, a1] st := rfl
@[simp] theorem cl_15_3 (c : Fn) (a0 a1 a2 : D) (st : Store) : callD T c 15 [a0, a1, a2] st = c 15 [a0, a1, a2] st := rfl
@[simp] theorem cl_16_1 (c : Fn) (a0 : D) (st : Store) : callD T c 16 [a0] st = c 16 [a0] st := rfl
@[simp] theorem cl_17_1 (c : Fn) (a0 : D) (st : Store) : callD T c 17 [a0] st = c 17 [a0] st := rfl
@[simp] theorem cl_18_4 (c : Fn) (a0 a1 a2 a3 : D) (st : Store) : callD T c 18 [a0, a1, a2, a3] st = c 18 [a0, a1, a2, a3] st := rfl
@[simp] theorem cl_19_3 (c : Fn) (a0 a1 a2 : D) (st : Store) : callD T c 19 [a0, a1, a2] st = c 19 [a0, a1, a2] st := rfl
@[simp] theorem cl_20_4 (c : Fn) (a0 a1 a2 a3 : D) (st : Store) : callD T c 20 [a0, a1, a2, a3] st = c 20 [a0, a1, a2, a3] st := rfl
@[simp] theorem cl_21_5 (c : Fn) (a0 a1 a2 a3 a4 : D) (st : Store) : callD T c 21 [a0, a1, a2, a3, a4] st = c 21 [a0, a1, a2, a3, a4] st := rfl
@[simp] theorem cl_22_2 (c : Fn) (a0 a1 : D) (st : Store) : callD T c 22 [a0, a1] st = c 22 [a0, a1] st := rfl
@[simp] theorem cl_23_1 (c : Fn) (a0 : D) (st : Store) : callD T c 23 [a0] st = c 23 [a0] st := rfl
@[simp] theorem cl_24_3 (c : Fn) (a0 a1 a2 : D) (st : Store) : callD T c 24 [a0, a1, a2] st = c 24 [a0, a1, a2] st := rfl
@[simp] theorem cl_25_1 (c : Fn) (a0 : D) (st : Store) : callD T c 25 [a0] st = c 25 [a0] st := rfl
@[simp] theorem cl_26_2 (c : Fn) (a0 a1 : D) (st : Store) : callD T c 26 [a0, a1] st = c 26 [a0, a1, .int 1] st := rfl
@[simp] theorem cl_26_3 (c : Fn) (a0 a1 a2 : D) (st : Store) : callD T c 26 [a0, a1, a2] st = c 26 [a0, a1, a2] st := rfl
@[simp] theorem cl_27_2 (c : Fn) (a0 a1 : D) (st : Store) : callD T c 27 [a0, a1] st = c 27 [a0, a1] st := rfl
@[simp] theorem cl_28_2 (c : Fn) (a0 a1 : D) (st : Store) : callD T c 28 [a0, a1] st = c 28 [a0, a1] st := rfl
@[simp] theorem cl_29_2 (c : Fn) (a0 a1 : D) (st : Store) : callD T c 29 [a0, a1] st = c 29 [a0, a1] st := rfl
@[simp] theorem cl_30_2 (c : Fn) (a0 a1 : D) (st : Store) : callD T c 30 [a0, a1] st = c 30 [a0, a1] st := rfl
@[simp] theorem cl_31_2 (c : Fn) (a0 a1 : D) (st : Store) : callD T c 31 [a0, a1] st = c 31 [a0, a1] st := rfl
@[simp] theorem cl_32_2 (c : Fn) (a0 a1 : D) (st : Store) : callD T c 32 [a0, a1] st = c 32 [a0, a1] st := rfl
@[simp] theorem cl_33_2 (c : Fn) (a0 a1 : D) (st : Store) : callD T c 33 [a0, a1] st = c 33 [a0, a1] st := rfl
@[simp] theorem cl_34_2 (c : Fn) (a0 a1 : D) (st : Store) : callD T c 34 [a0, a1] st = c 34 [a0, a1] st := rfl
@[simp] theorem cl_35_2 (c : Fn) (a0 a1 : D) (st : Store) : callD T c 35 [a0, a1] st = c 35 [a0, a1] st := rfl
@[simp] theorem cl_36_2 (c : Fn) (a0 a1 : D) (st : Store) : callD T c 36 [a0, a1] st = c 36 [a0, a1] st := rfl
@[simp] theorem cl_37_2 (c : Fn) (a0 a1 : D) (st : Store) : callD T c 37 [a0, a1] st = c 37 [a0, a1] st := rfl
@[simp] theorem cl_38_2 (c : Fn) (a0 a1 : D) (st : Store) : callD T c 38 [a0, a1] st = c 38 [a0, a1] st := rfl
@[simp] theorem cl_39_2 (c : Fn) (a0 a1 : D) (st : Store) : callD T c 39 [a0, a1] st = c 39 [a0, a1] st := rfl
@[simp] theorem cl_40_2 (c : Fn) (a0 a1 : D) (st : Store) : callD T c 40 [a0, a1] st = c 40 [a0, a1] st := rfl
@[simp] theorem cl_41_2 (c : Fn) (a0 a1 : D) (st : Store) : callD T c 41 [a0, a1] st = c 41 [a0, a1] st := rfl
@[simp] theorem cl_42_2 (c : Fn) (a0 a1 : D) (st : Store) : callD T c 42 [a0, a1] st = c 42 [a0, a1] st := rfl
@[simp] theorem cl_43_1 (c : Fn) (a0 : D) (st : Store) : callD T c 43 [a0] st = c 43 [a0] st := rfl
@[simp] theorem cl_44_1 (c : Fn) (a0 : D) (st : Store) : callD T c 44 [a0] st = c 44 [a0] st := rfl
@[simp] theorem cl_45_1 (c : Fn) (a0 : D) (st : Store) : callD T c 45 [a0] st = c 45 [a0] st := rfl
@[simp] theorem cl_46_1 (c : Fn) (a0 : D) (st : Store) : callD T c 46 [a0] st = c 46 [a0] st := rfl
@[simp] theorem cl_47_2 (c : Fn) (a0 a1 : D) (st : Store) : callD T c 47 [a0, a1] st = c 47 [a0, a1] st := rfl
@[simp] theorem cl_48_1 (c : Fn) (a0 : D) (st : Store) : callD T c 48 [a0] st = c 48 [a0] st := rfl
@[simp] theorem cl_49_1 (c : Fn) (a0 : D) (st : Store) : callD T c 49 [a0] st = c 49 [a0] st := rfl
@[simp] theorem cl_50_1 (c : Fn) (a0 : D) (st : Store) : callD T c 50 [a0] st = c 50 [a0] st := rfl
@[simp] theorem cl_51_1 (c : Fn) (a0 : D) (st : Store) : callD T c 51 [a0] st = c 51 [a0] st := rfl
@[simp] theorem isC_0 : T.isC 0 = true := rfl
@[simp] theorem lay_0 : T.lay 0 = [40, 41] := rfl
@[simp] theorem atn_0 : T.atn 0 = [40, 41] := rfl
@[simp] theorem sub_0_0 : T.sub 0 0 = true := rfl
@[simp] theorem me_0_37 : T.meth 0 37 = some 26 := rfl
@[simp] theorem me_0_21 : T.meth 0 21 = some 27 := rfl
@[simp] theorem me_0_22 : T.meth 0 22 = some 28 := rfl
@[simp] theorem me_0_23 : T.meth 0 23 = some 29 := rfl
@[simp] theorem me_0_24 : T.meth 0 24 = some 30 := rfl
@[simp] theorem me_0_25 : T.meth 0 25 = some 31 := rfl
@[simp] theorem me_0_1 : T.meth 0 1 = some 32 := rfl
@[simp] theorem me_0_11 : T.meth 0 11 = some 33 := rfl
@[simp] theorem me_0_2 : T.meth 0 2 = some 34 := rfl
@[simp] theorem me_0_12 : T.meth 0 12 = some 35 := rfl
@[simp] theorem me_0_3 : T.meth 0 3 = some 36 := rfl
@[simp] theorem me_0_13 : T.meth 0 13 = some 37 := rfl
@[simp] theorem me_0_4 : T.meth 0 4 = some 38 := rfl
@[simp] theorem me_0_14 : T.meth 0 14 = some 39 := rfl
@[simp] theorem me_0_5 : T.meth 0 5 = some 40 := rfl
@[simp] theorem me_0_15 : T.meth 0 15 = some 41 := rfl
@[simp] theorem me_0_6 : T.meth 0 6 = some 42 := rfl
@[simp] theorem me_0_31 : T.meth 0 31 = some 43 := rfl
@[simp] theorem me_0_33 : T.meth 0 33 = some 44 := rfl
@[simp] theorem me_0_34 : T.meth 0 34 = some 45 := rfl
@[simp] theorem me_0_35 : T.meth 0 35 = some 46 := rfl
@[simp] theorem me_0_44 : T.meth 0 44 = some 47 := rfl
@[simp] theorem me_0_43 : T.meth 0 43 = some 48 := rfl
@[simp] theorem me_0_42 : T.meth 0 42 = some 49 := rfl
@[simp] theorem me_0_46 : T.meth 0 46 = some 50 := rfl
@[simp] theorem me_0_45 : T.meth 0 45 = some 51 := rfl
structure Nam (K : PySem.W.Frag) (mg : Str → Option Value) : Prop where
  g_Ratio : mg "Ratio" = some (.ref (tb.cad K 0))
  g_is_number : mg "is_number" = some (.ref (tb.fad K 0))
  g__law_draw : mg "_law_draw" = some (.ref (tb.fad K 5))
  g__law_ten : mg "_law_ten" = some (.ref (tb.fad K 7))
  g__law_long : mg "_law_long" = some (.ref (tb.fad K 8))
  g__law_size : mg "_law_size" = some (.ref (tb.fad K 9))
  g__law_whole_is : mg "_law_whole_is" = some (.ref (tb.fad K 14))
  g__law_gcd : mg "_law_gcd" = some (.ref (tb.fad K 11))
  g__law_number : mg "_law_number" = some (.ref (tb.fad K 10))
  g__law_ratio_is : mg "_law_ratio_is" = some (.ref (tb.fad K 15))
  g__law_truth : mg "_law_truth" = some (.ref (tb.fad K 12))
  g__law_few : mg "_law_few" = some (.ref (tb.fad K 23))
  g__law_power : mg "_law_power" = some (.ref (tb.fad K 13))
  g_ratio_of : mg "ratio_of" = some (.ref (tb.fad K 3))
  g__law_pick : mg "_law_pick" = some (.ref (tb.fad K 6))
  g__law_refused : mg "_law_refused" = some (.ref (tb.fad K 17))
  g__law_begin : mg "_law_begin" = some (.ref (tb.fad K 4))
  g__law_fraction : mg "_law_fraction" = some (.ref (tb.fad K 16))
  g__law_sums_right : mg "_law_sums_right" = some (.ref (tb.fad K 18))
  g__law_mixed_right : mg "_law_mixed_right" = some (.ref (tb.fad K 19))
  g__law_order_right : mg "_law_order_right" = some (.ref (tb.fad K 20))
  g__law_floors_right : mg "_law_floors_right" = some (.ref (tb.fad K 21))
  g__law_shown_right : mg "_law_shown_right" = some (.ref (tb.fad K 22))
  g__law_refusals_right : mg "_law_refusals_right" = some (.ref (tb.fad K 24))
  g_gcd_of : mg "gcd_of" = some (.ref (tb.fad K 1))
  g_raised : mg "raised" = some (.ref (tb.fad K 2))
  b_isinstance : mg "isinstance" = none
  b_int : mg "int" = none
  b_bool : mg "bool" = none
  b_abs : mg "abs" = none
  b_list : mg "list" = none
  b_len : mg "len" = none
  b_range : mg "range" = none
  b_max : mg "max" = none
  b_str : mg "str" = none
  b_repr : mg "repr" = none
  b_ValueError : mg "ValueError" = none
structure Xt (P : Program) (w : World) (K : PySem.W.Frag) (mg : Str → Option Value) (base : Heap) : Prop where
  f_17 : FunD K d_17.name d_17.qual d_17.params d_17.body d_17.scope (d_17.dvs K) (d_17.kws K) (adr K d_17.at_) ((fdO (K.lookup (adr K d_17.at_))).getD default)
  tab : ∀ p ∈ csOf tb K, LamX.TabB base mg p.1 p.2
  apart : apartB tb K = true
  m_BadNumber : mg "BadNumber" = some (.ref (He.ga K "BadNumber"))
  x_BadNumber : ∀ k, Xc1 P w K mg base (k + 1) (tb.lw K) 1 "BadNumber" 47 (initA K "BadNumber") ((fdO (K.lookup (initA K "BadNumber"))).getD default) ["self", "value"]
  xf_BadNumber : XfC K (tb.cad K 1) ∧ PySem.W.findIn K (.ref (tb.cad K 1)) "value" = some none
  xe_BadNumber : ExcC K (tb.cad K 1)
  ki_BadNumber_ValueError : PySem.W.kitOne K (.ref (tb.cad K 1)) (.type "ValueError") = some true
  e_17_0 : exmB tb K [(1, true)] (.ref (He.ga K "BadNumber")) = true
structure GdC (P : Program) (w : World) (K : PySem.W.Frag) (mg : Str → Option Value) (base : Heap) (k : Nat) (gc : Fn) : Prop where
  c_24 : FnP (Bare k) P w K mg base (L2.CX P w) ((tb.lw K).fad 24) ((tb.lw K).fdt 24) ((tb.lw K).fps 24) (spM K (tb.lw K) ((tb.lw K).fps 24).length (gc 24))
  c_25 : FnP (Bare k) P w K mg base (L2.CX P w) ((tb.lw K).fad 25) ((tb.lw K).fdt 25) ((tb.lw K).fps 25) (spM K (tb.lw K) ((tb.lw K).fps 25).length (gc 25))
section
variable {P : Program} {w : World} {K : PySem.W.Frag} {mg : Str → Option Value} {base : Heap} {k : Nat} {c : Fn}
theorem sc_0 : FnScope ["value"] ["value"] (defScope s_0) := ⟨rfl, rfl, rfl, by decide +kernel, rfl, by decide +kernel, by decide +kernel⟩
theorem rb_0 {f : Addr} {X : Cx} {Wx : WX} (N : Nam K mg) (Z : Xt P w K mg base) (hX : ∃ (cdv : Value) (A : Around) (outer : List Env) (s : Shared) (H : Hp) (E : XK), X = cxOf (L2.CX P w) P w K mg base ["value"] d_0.qual (defScope s_0) f cdv A outer s H E) (G : Gd (tb.lw K) X Wx k c) : RSs (tb.lw K) X Wx (defBody s_0) (B_0 c) := by
  obtain ⟨cdv, A, outer, s, H, E, rfl⟩ := hX
  exact (rss_one (rs_ret (re_or (rtv_tru G) (re_iso (j := 0) G rfl (ev 0) rfl N.b_isinstance rfl N.g_Ratio) (re_one (re_and (rtv_tru G) (re_ist (t := "int") G (by decide) (ev 0) rfl N.b_isinstance rfl N.b_int bb_int) (re_one (re_not (rtv_tru G) (re_ist (t := "bool") G (by decide) (ev 0) rfl N.b_isinstance rfl N.b_bool bb_bool))))))))
theorem ok_0 {fd : FuncData} (N : Nam K mg) (Z : Xt P w K mg base) (F : FunD K d_0.name d_0.qual d_0.params d_0.body d_0.scope (d_0.dvs K) (d_0.kws K) (adr K d_0.at_) fd) (fo : FOk (tb.lw K) P w K mg base k c) : FnOk P w K mg base (L2.CX P w) (k + 13) ((tb.lw K).fad 0) ((tb.lw K).fdt 0) ((tb.lw K).fps 0) (spM K (tb.lw K) ((tb.lw K).fps 0).length (fnD 1 (B_0 c))) :=
  fn_rule (N := ["value"]) (funG_of F rfl rfl rfl) sc_0 fo (fun _ _ _ _ _ _ => rfl) fun X Wx hX G => rb_0 N Z hX G
theorem sc_1 : FnScope ["first", "second"] ["first", "second"] (defScope s_1) := ⟨rfl, rfl, rfl, by decide +kernel, rfl, by decide +kernel, by decide +kernel⟩
theorem rb_1 {f : Addr} {X : Cx} {Wx : WX} (N : Nam K mg) (Z : Xt P w K mg base) (hX : ∃ (cdv : Value) (A : Around) (outer : List Env) (s : Shared) (H : Hp) (E : XK), X = cxOf (L2.CX P w) P w K mg base ["first", "second"] d_1.qual (defScope s_1) f cdv A outer s H E) (G : Gd (tb.lw K) X Wx k c) : RSs (tb.lw K) X Wx (defBody s_1) (B_1 c) := by
  obtain ⟨cdv, A, outer, s, H, E, rfl⟩ := hX
  exact (rss_cons (pr2 0 1 G (ra_cons (re_bfn (rc_abs) rfl N.b_abs bb_abs (ra_cons (ev 0) ra_nil)) (ra_cons (re_bfn (rc_abs) rfl N.b_abs bb_abs (ra_cons (ev 1) ra_nil)) ra_nil))) (rss_cons (rs_while G.po (rt_of (rtv_tru G) (ev 1)) (rss_one (pr2 0 1 G (ra_cons (ev 1) (ra_cons (re_bin (r2_bin G .Mod) (ev 0) (ev 1)) ra_nil))))) (rss_one (rs_ret (ev 0)))))
theorem ok_1 {fd : FuncData} (N : Nam K mg) (Z : Xt P w K mg base) (F : FunD K d_1.name d_1.qual d_1.params d_1.body d_1.scope (d_1.dvs K) (d_1.kws K) (adr K d_1.at_) fd) (fo : FOk (tb.lw K) P w K mg base k c) : FnOk P w K mg base (L2.CX P w) (k + 13) ((tb.lw K).fad 1) ((tb.lw K).fdt 1) ((tb.lw K).fps 1) (spM K (tb.lw K) ((tb.lw K).fps 1).length (fnD 2 (B_1 c))) :=
  fn_rule (N := ["first", "second"]) (funG_of F rfl rfl rfl) sc_1 fo (fun _ _ _ _ _ _ => rfl) fun X Wx hX G => rb_1 N Z hX G
theorem sc_2 : FnScope ["number", "times", "product"] ["number", "times"] (defScope s_2) := ⟨rfl, rfl, rfl, by decide +kernel, rfl, by decide +kernel, by decide +kernel⟩
theorem rb_2 {f : Addr} {X : Cx} {Wx : WX} (N : Nam K mg) (Z : Xt P w K mg base) (hX : ∃ (cdv : Value) (A : Around) (outer : List Env) (s : Shared) (H : Hp) (E : XK), X = cxOf (L2.CX P w) P w K mg base ["number", "times", "product"] d_2.qual (defScope s_2) f cdv A outer s H E) (G : Gd (tb.lw K) X Wx k c) : RSs (tb.lw K) X Wx (defBody s_2) (B_2 c) := by
  obtain ⟨cdv, A, outer, s, H, E, rfl⟩ := hX
  exact (rss_cons (sv 2 G re_int) (rss_cons (rs_while G.po (rt_of (rtv_tru G) (ev 1)) (rss_cons (rs_if (rt_of (rtv_tru G) (re_bin (r2_bin G .Mod) (ev 1) re_int)) (rss_one (sv 2 G (re_bin (r2_bin G .Mult) (ev 2) (ev 0)))) rss_nil) (rss_cons (sv 0 G (re_bin (r2_bin G .Mult) (ev 0) (ev 0))) (rss_one (sv 1 G (re_bin (r2_bin G .FloorDiv) (ev 1) re_int)))))) (rss_one (rs_ret (ev 2)))))
theorem ok_2 {fd : FuncData} (N : Nam K mg) (Z : Xt P w K mg base) (F : FunD K d_2.name d_2.qual d_2.params d_2.body d_2.scope (d_2.dvs K) (d_2.kws K) (adr K d_2.at_) fd) (fo : FOk (tb.lw K) P w K mg base k c) : FnOk P w K mg base (L2.CX P w) (k + 13) ((tb.lw K).fad 2) ((tb.lw K).fdt 2) ((tb.lw K).fps 2) (spM K (tb.lw K) ((tb.lw K).fps 2).length (fnD 3 (B_2 c))) :=
  fn_rule (N := ["number", "times", "product"]) (funG_of F rfl rfl rfl) sc_2 fo (fun _ _ _ _ _ _ => rfl) fun X Wx hX G => rb_2 N Z hX G
theorem sc_3 : FnScope ["number"] ["number"] (defScope s_3) := ⟨rfl, rfl, rfl, by decide +kernel, rfl, by decide +kernel, by decide +kernel⟩
theorem rb_3 {f : Addr} {X : Cx} {Wx : WX} (N : Nam K mg) (Z : Xt P w K mg base) (hX : ∃ (cdv : Value) (A : Around) (outer : List Env) (s : Shared) (H : Hp) (E : XK), X = cxOf (L2.CX P w) P w K mg base ["number"] d_3.qual (defScope s_3) f cdv A outer s H E) (G : Gd (tb.lw K) X Wx k c) : RSs (tb.lw K) X Wx (defBody s_3) (B_3 c) := by
  obtain ⟨cdv, A, outer, s, H, E, rfl⟩ := hX
  exact (rss_cons (rs_if (rt_of (rtv_tru G) (re_iso (j := 0) G rfl (ev 0) rfl N.b_isinstance rfl N.g_Ratio)) (rss_one (rs_ret (ev 0))) rss_nil) (rss_cons (rs_if (rt_not (rt_of (rtv_tru G) (re_call (i := 0) G rfl rfl N.g_is_number (ra_cons (ev 0) ra_nil)))) (rss_one (rs_raise1 G (Z.x_BadNumber _) rfl (ev 0))) rss_nil) (rss_one (rs_ret (re_mk (i := 0) (f := 26) G rfl rfl N.g_Ratio (ra_cons (ev 0) ra_nil))))))
theorem ok_3 {fd : FuncData} (N : Nam K mg) (Z : Xt P w K mg base) (F : FunD K d_3.name d_3.qual d_3.params d_3.body d_3.scope (d_3.dvs K) (d_3.kws K) (adr K d_3.at_) fd) (fo : FOk (tb.lw K) P w K mg base k c) : FnOk P w K mg base (L2.CX P w) (k + 13) ((tb.lw K).fad 3) ((tb.lw K).fdt 3) ((tb.lw K).fps 3) (spM K (tb.lw K) ((tb.lw K).fps 3).length (fnD 1 (B_3 c))) :=
  fn_rule (N := ["number"]) (funG_of F rfl rfl rfl) sc_3 fo (fun _ _ _ _ _ _ => rfl) fun X Wx hX G => rb_3 N Z hX G
theorem sc_4 : FnScope ["_law_script"] ["_law_script"] (defScope s_4) := ⟨rfl, rfl, rfl, by decide +kernel, rfl, by decide +kernel, by decide +kernel⟩
theorem rb_4 {f : Addr} {X : Cx} {Wx : WX} (N : Nam K mg) (Z : Xt P w K mg base) (hX : ∃ (cdv : Value) (A : Around) (outer : List Env) (s : Shared) (H : Hp) (E : XK), X = cxOf (L2.CX P w) P w K mg base ["_law_script"] d_4.qual (defScope s_4) f cdv A outer s H E) (G : Gd (tb.lw K) X Wx k c) : RSs (tb.lw K) X Wx (defBody s_4) (B_4 c) := by
  obtain ⟨cdv, A, outer, s, H, E, rfl⟩ := hX
  exact (rss_one (rs_ret (re_dic (ks := ["cells", "at", "rest"]) (RPs.cons (re_bin (r2_bin G .Add) (re_bty rc_list rfl N.b_list bb_list (ra_cons (re_sl (ev 0) ro_no (ro_so re_int)) ra_nil)) (re_bin (r2_bin G .Mult) (re_lst (ra_cons re_int ra_nil)) (re_bty rc_int rfl N.b_int bb_int (ra_cons (re_cmp (r2_eq G) (re_bfn (rc_len) rfl N.b_len bb_len (ra_cons (ev 0) ra_nil)) re_int rfl) ra_nil)))) (RPs.cons re_int (RPs.cons re_int RPs.nil))) (by simp) (by decide))))
theorem ok_4 {fd : FuncData} (N : Nam K mg) (Z : Xt P w K mg base) (F : FunD K d_4.name d_4.qual d_4.params d_4.body d_4.scope (d_4.dvs K) (d_4.kws K) (adr K d_4.at_) fd) (fo : FOk (tb.lw K) P w K mg base k c) : FnOk P w K mg base (L2.CX P w) (k + 13) ((tb.lw K).fad 4) ((tb.lw K).fdt 4) ((tb.lw K).fps 4) (spM K (tb.lw K) ((tb.lw K).fps 4).length (fnD 1 (B_4 c))) :=
  fn_rule (N := ["_law_script"]) (funG_of F rfl rfl rfl) sc_4 fo (fun _ _ _ _ _ _ => rfl) fun X Wx hX G => rb_4 N Z hX G
theorem sc_5 : FnScope ["_law_tape", "_law_limit", "_law_at", "_law_span", "_law_cell", "_law_mixed", "_law_found"] ["_law_tape", "_law_limit"] (defScope s_5) := ⟨rfl, rfl, rfl, by decide +kernel, rfl, by decide +kernel, by decide +kernel⟩
theorem rb_5 {f : Addr} {X : Cx} {Wx : WX} (N : Nam K mg) (Z : Xt P w K mg base) (hX : ∃ (cdv : Value) (A : Around) (outer : List Env) (s : Shared) (H : Hp) (E : XK), X = cxOf (L2.CX P w) P w K mg base ["_law_tape", "_law_limit", "_law_at", "_law_span", "_law_cell", "_law_mixed", "_law_found"] d_5.qual (defScope s_5) f cdv A outer s H E) (G : Gd (tb.lw K) X Wx k c) : RSs (tb.lw K) X Wx (defBody s_5) (B_5 c) := by
  obtain ⟨cdv, A, outer, s, H, E, rfl⟩ := hX
  exact (rss_cons (rs_if (rt_cmp (rtv_tru G) (r2_ord G .Lt) (re_ix G (ev 0) re_str) (ev 1) rfl) (rss_cons (pr2 2 3 G (ra_cons (re_ix G (ev 0) re_str) (ra_cons (re_bfn (rc_len) rfl N.b_len bb_len (ra_cons (re_ix G (ev 0) re_str) ra_nil)) ra_nil))) (rss_cons (rs_asg (re_tup (ra_cons (re_ix G (re_ix G (ev 0) re_str) (re_bin (r2_bin G .Mod) (re_bty rc_int rfl N.b_int bb_int (ra_cons (ev 2) ra_nil)) (ev 3))) (ra_cons (re_bin (r2_bin G .Add) (ev 2) re_int) ra_nil))) (gt G (rgs_cons (gv 4 G) (rgs_cons (rg_put G (ev 0) re_str) rgs_nil)))) (rss_cons (sv 5 G (re_bin (r2_bin G .Add) (re_bin (r2_bin G .Add) (re_bin (r2_bin G .Mult) (re_bty rc_int rfl N.b_int bb_int (ra_cons (ev 4) ra_nil)) re_int) (re_bin (r2_bin G .Mult) (re_bin (r2_bin G .Mult) re_int (ev 2)) (ev 2))) re_int)) (rss_cons (sv 5 G (re_bin (r2_bin G .Mod) (re_bty rc_int rfl N.b_int bb_int (ra_cons (ev 5) ra_nil)) re_int)) (rss_cons (rs_sput G (ev 0) re_str (re_bin (r2_bin G .Mod) (re_bty rc_int rfl N.b_int bb_int (ra_cons (re_bin (r2_bin G .Add) (re_bin (r2_bin G .Pow) (ev 5) re_int) (re_bin (r2_bin G .Mult) (re_bin (r2_bin G .Mult) (re_bin (r2_bin G .Mult) re_int (ev 2)) (ev 5)) (ev 5))) ra_nil)) (re_bin (r2_bin G .Add) (re_bin (r2_bin G .Pow) re_int re_int) re_int))) (rss_one (rs_if (RW.rt (rw_and (rt_cmp (rtv_tru G) (r2_ord G .GtE) (ev 4) (re_bin (r2_bin G .Pow) re_int re_int) rfl) (rw_and1 (rt_cmp (rtv_tru G) (r2_ord G .Lt) (ev 2) (ev 3) rfl)))) (rss_one (rs_sput G (ev 0) re_str (re_bin (r2_bin G .Sub) (ev 4) (re_bin (r2_bin G .Pow) re_int re_int)))) rss_nil))))))) rss_nil) (rss_cons (rs_asg (re_tup (ra_cons (re_bin (r2_bin G .Mod) (re_bty rc_int rfl N.b_int bb_int (ra_cons (re_ix G (ev 0) re_str) ra_nil)) (ev 1)) (ra_cons (re_bin (r2_bin G .FloorDiv) (re_ix G (ev 0) re_str) (ev 1)) ra_nil))) (gt G (rgs_cons (gv 6 G) (rgs_cons (rg_put G (ev 0) re_str) rgs_nil)))) (rss_one (rs_ret (ev 6)))))
theorem ok_5 {fd : FuncData} (N : Nam K mg) (Z : Xt P w K mg base) (F : FunD K d_5.name d_5.qual d_5.params d_5.body d_5.scope (d_5.dvs K) (d_5.kws K) (adr K d_5.at_) fd) (fo : FOk (tb.lw K) P w K mg base k c) : FnOk P w K mg base (L2.CX P w) (k + 13) ((tb.lw K).fad 5) ((tb.lw K).fdt 5) ((tb.lw K).fps 5) (spM K (tb.lw K) ((tb.lw K).fps 5).length (fnD 7 (B_5 c))) :=
  fn_rule (N := ["_law_tape", "_law_limit", "_law_at", "_law_span", "_law_cell", "_law_mixed", "_law_found"]) (funG_of F rfl rfl rfl) sc_5 fo (fun _ _ _ _ _ _ => rfl) fun X Wx hX G => rb_5 N Z hX G
theorem sc_6 : FnScope ["_law_tape", "_law_some"] ["_law_tape", "_law_some"] (defScope s_6) := ⟨rfl, rfl, rfl, by decide +kernel, rfl, by decide +kernel, by decide +kernel⟩
theorem rb_6 {f : Addr} {X : Cx} {Wx : WX} (N : Nam K mg) (Z : Xt P w K mg base) (hX : ∃ (cdv : Value) (A : Around) (outer : List Env) (s : Shared) (H : Hp) (E : XK), X = cxOf (L2.CX P w) P w K mg base ["_law_tape", "_law_some"] d_6.qual (defScope s_6) f cdv A outer s H E) (G : Gd (tb.lw K) X Wx k c) : RSs (tb.lw K) X Wx (defBody s_6) (B_6 c) := by
  obtain ⟨cdv, A, outer, s, H, E, rfl⟩ := hX
  exact (rss_one (rs_ret (re_ix G (ev 1) (re_call (i := 5) G rfl rfl N.g__law_draw (ra_cons (ev 0) (ra_cons (re_bfn (rc_len) rfl N.b_len bb_len (ra_cons (ev 1) ra_nil)) ra_nil))))))
theorem ok_6 {fd : FuncData} (N : Nam K mg) (Z : Xt P w K mg base) (F : FunD K d_6.name d_6.qual d_6.params d_6.body d_6.scope (d_6.dvs K) (d_6.kws K) (adr K d_6.at_) fd) (fo : FOk (tb.lw K) P w K mg base k c) : FnOk P w K mg base (L2.CX P w) (k + 13) ((tb.lw K).fad 6) ((tb.lw K).fdt 6) ((tb.lw K).fps 6) (spM K (tb.lw K) ((tb.lw K).fps 6).length (fnD 2 (B_6 c))) :=
  fn_rule (N := ["_law_tape", "_law_some"]) (funG_of F rfl rfl rfl) sc_6 fo (fun _ _ _ _ _ _ => rfl) fun X Wx hX G => rb_6 N Z hX G
theorem sc_7 : FnScope ["_law_figures"] ["_law_figures"] (defScope s_7) := ⟨rfl, rfl, rfl, by decide +kernel, rfl, by decide +kernel, by decide +kernel⟩
theorem rb_7 {f : Addr} {X : Cx} {Wx : WX} (N : Nam K mg) (Z : Xt P w K mg base) (hX : ∃ (cdv : Value) (A : Around) (outer : List Env) (s : Shared) (H : Hp) (E : XK), X = cxOf (L2.CX P w) P w K mg base ["_law_figures"] d_7.qual (defScope s_7) f cdv A outer s H E) (G : Gd (tb.lw K) X Wx k c) : RSs (tb.lw K) X Wx (defBody s_7) (B_7 c) := by
  obtain ⟨cdv, A, outer, s, H, E, rfl⟩ := hX
  exact (rss_one (rs_ret (re_bty rc_int rfl N.b_int bb_int (ra_cons (re_bin (r2_bin G .Add) re_str (re_bin (r2_bin G .Mult) re_str (ev 0))) ra_nil))))
theorem ok_7 {fd : FuncData} (N : Nam K mg) (Z : Xt P w K mg base) (F : FunD K d_7.name d_7.qual d_7.params d_7.body d_7.scope (d_7.dvs K) (d_7.kws K) (adr K d_7.at_) fd) (fo : FOk (tb.lw K) P w K mg base k c) : FnOk P w K mg base (L2.CX P w) (k + 13) ((tb.lw K).fad 7) ((tb.lw K).fdt 7) ((tb.lw K).fps 7) (spM K (tb.lw K) ((tb.lw K).fps 7).length (fnD 1 (B_7 c))) :=
  fn_rule (N := ["_law_figures"]) (funG_of F rfl rfl rfl) sc_7 fo (fun _ _ _ _ _ _ => rfl) fun X Wx hX G => rb_7 N Z hX G
theorem sc_8 : FnScope ["_law_tape", "_law_figures", "_law_found", "_law_k"] ["_law_tape", "_law_figures"] (defScope s_8) := ⟨rfl, rfl, rfl, by decide +kernel, rfl, by decide +kernel, by decide +kernel⟩
theorem rb_8 {f : Addr} {X : Cx} {Wx : WX} (N : Nam K mg) (Z : Xt P w K mg base) (hX : ∃ (cdv : Value) (A : Around) (outer : List Env) (s : Shared) (H : Hp) (E : XK), X = cxOf (L2.CX P w) P w K mg base ["_law_tape", "_law_figures", "_law_found", "_law_k"] d_8.qual (defScope s_8) f cdv A outer s H E) (G : Gd (tb.lw K) X Wx k c) : RSs (tb.lw K) X Wx (defBody s_8) (B_8 c) := by
  obtain ⟨cdv, A, outer, s, H, E, rfl⟩ := hX
  exact (rss_cons (sv 2 G re_int) (rss_cons (rs_for G.po G.calm (ri_range1 rfl N.b_range (ra_cons (re_bin (r2_bin G .FloorDiv) (re_bin (r2_bin G .Add) (ev 1) re_int) re_int) ra_nil)) (gv 3 G) (rss_one (sv 2 G (re_bin (r2_bin G .Add) (re_bin (r2_bin G .Mult) (ev 2) (re_bin (r2_bin G .Pow) re_int re_int)) (re_call (i := 5) G rfl rfl N.g__law_draw (ra_cons (ev 0) (ra_cons (re_bin (r2_bin G .Pow) re_int re_int) ra_nil))))))) (rss_one (rs_ret (re_bin (r2_bin G .Mod) (re_bty rc_int rfl N.b_int bb_int (ra_cons (ev 2) ra_nil)) (re_call (i := 7) G rfl rfl N.g__law_ten (ra_cons (ev 1) ra_nil)))))))
theorem ok_8 {fd : FuncData} (N : Nam K mg) (Z : Xt P w K mg base) (F : FunD K d_8.name d_8.qual d_8.params d_8.body d_8.scope (d_8.dvs K) (d_8.kws K) (adr K d_8.at_) fd) (fo : FOk (tb.lw K) P w K mg base k c) : FnOk P w K mg base (L2.CX P w) (k + 13) ((tb.lw K).fad 8) ((tb.lw K).fdt 8) ((tb.lw K).fps 8) (spM K (tb.lw K) ((tb.lw K).fps 8).length (fnD 4 (B_8 c))) :=
  fn_rule (N := ["_law_tape", "_law_figures", "_law_found", "_law_k"]) (funG_of F rfl rfl rfl) sc_8 fo (fun _ _ _ _ _ _ => rfl) fun X Wx hX G => rb_8 N Z hX G
theorem sc_9 : FnScope ["_law_tape", "_law_figures", "_law_sort"] ["_law_tape", "_law_figures"] (defScope s_9) := ⟨rfl, rfl, rfl, by decide +kernel, rfl, by decide +kernel, by decide +kernel⟩
theorem rb_9 {f : Addr} {X : Cx} {Wx : WX} (N : Nam K mg) (Z : Xt P w K mg base) (hX : ∃ (cdv : Value) (A : Around) (outer : List Env) (s : Shared) (H : Hp) (E : XK), X = cxOf (L2.CX P w) P w K mg base ["_law_tape", "_law_figures", "_law_sort"] d_9.qual (defScope s_9) f cdv A outer s H E) (G : Gd (tb.lw K) X Wx k c) : RSs (tb.lw K) X Wx (defBody s_9) (B_9 c) := by
  obtain ⟨cdv, A, outer, s, H, E, rfl⟩ := hX
  exact (rss_cons (sv 2 G (re_call (i := 5) G rfl rfl N.g__law_draw (ra_cons (ev 0) (ra_cons re_int ra_nil)))) (rss_cons (rs_if (rt_cmp (rtv_tru G) (r2_ord G .Lt) (ev 2) re_int rfl) (rss_one (rs_ret (re_call (i := 5) G rfl rfl N.g__law_draw (ra_cons (ev 0) (ra_cons (re_ix G (re_lst (ra_cons re_int (ra_cons re_int (ra_cons re_int ra_nil)))) (ev 2)) ra_nil))))) rss_nil) (rss_cons (rs_if (rt_cmp (rtv_tru G) (r2_eq G) (ev 2) re_int rfl) (rss_one (rs_ret (re_call (i := 8) G rfl rfl N.g__law_long (ra_cons (ev 0) (ra_cons (re_bin (r2_bin G .Add) re_int (re_call (i := 5) G rfl rfl N.g__law_draw (ra_cons (ev 0) (ra_cons (ev 1) ra_nil)))) ra_nil))))) rss_nil) (rss_cons (rs_if (rt_cmp (rtv_tru G) (r2_eq G) (ev 2) re_int rfl) (rss_one (rs_ret (re_call (i := 8) G rfl rfl N.g__law_long (ra_cons (ev 0) (ra_cons (ev 1) ra_nil))))) rss_nil) (rss_one (rs_ret (re_bfn (rc_max G.calm) rfl N.b_max bb_max (ra_cons re_int (ra_cons (re_bin (r2_bin G .Sub) (re_bin (r2_bin G .Sub) (re_call (i := 7) G rfl rfl N.g__law_ten (ra_cons (re_bin (r2_bin G .Add) re_int (re_call (i := 5) G rfl rfl N.g__law_draw (ra_cons (ev 0) (ra_cons (ev 1) ra_nil)))) ra_nil)) (re_call (i := 5) G rfl rfl N.g__law_draw (ra_cons (ev 0) (ra_cons re_int ra_nil)))) re_int) ra_nil)))))))))
theorem ok_9 {fd : FuncData} (N : Nam K mg) (Z : Xt P w K mg base) (F : FunD K d_9.name d_9.qual d_9.params d_9.body d_9.scope (d_9.dvs K) (d_9.kws K) (adr K d_9.at_) fd) (fo : FOk (tb.lw K) P w K mg base k c) : FnOk P w K mg base (L2.CX P w) (k + 13) ((tb.lw K).fad 9) ((tb.lw K).fdt 9) ((tb.lw K).fps 9) (spM K (tb.lw K) ((tb.lw K).fps 9).length (fnD 3 (B_9 c))) :=
  fn_rule (N := ["_law_tape", "_law_figures", "_law_sort"]) (funG_of F rfl rfl rfl) sc_9 fo (fun _ _ _ _ _ _ => rfl) fun X Wx hX G => rb_9 N Z hX G
theorem sc_10 : FnScope ["_law_tape", "_law_figures", "_law_found"] ["_law_tape", "_law_figures"] (defScope s_10) := ⟨rfl, rfl, rfl, by decide +kernel, rfl, by decide +kernel, by decide +kernel⟩
theorem rb_10 {f : Addr} {X : Cx} {Wx : WX} (N : Nam K mg) (Z : Xt P w K mg base) (hX : ∃ (cdv : Value) (A : Around) (outer : List Env) (s : Shared) (H : Hp) (E : XK), X = cxOf (L2.CX P w) P w K mg base ["_law_tape", "_law_figures", "_law_found"] d_10.qual (defScope s_10) f cdv A outer s H E) (G : Gd (tb.lw K) X Wx k c) : RSs (tb.lw K) X Wx (defBody s_10) (B_10 c) := by
  obtain ⟨cdv, A, outer, s, H, E, rfl⟩ := hX
  exact (rss_cons (sv 2 G (re_call (i := 9) G rfl rfl N.g__law_size (ra_cons (ev 0) (ra_cons (ev 1) ra_nil)))) (rss_one (rs_ret (re_ifExp (rt_of (rtv_tru G) (re_call (i := 5) G rfl rfl N.g__law_draw (ra_cons (ev 0) (ra_cons re_int ra_nil)))) (re_un (r1_neg G) (ev 2)) (ev 2)))))
theorem ok_10 {fd : FuncData} (N : Nam K mg) (Z : Xt P w K mg base) (F : FunD K d_10.name d_10.qual d_10.params d_10.body d_10.scope (d_10.dvs K) (d_10.kws K) (adr K d_10.at_) fd) (fo : FOk (tb.lw K) P w K mg base k c) : FnOk P w K mg base (L2.CX P w) (k + 13) ((tb.lw K).fad 10) ((tb.lw K).fdt 10) ((tb.lw K).fps 10) (spM K (tb.lw K) ((tb.lw K).fps 10).length (fnD 3 (B_10 c))) :=
  fn_rule (N := ["_law_tape", "_law_figures", "_law_found"]) (funG_of F rfl rfl rfl) sc_10 fo (fun _ _ _ _ _ _ => rfl) fun X Wx hX G => rb_10 N Z hX G
theorem sc_11 : FnScope ["_law_one", "_law_other", "_law_k"] ["_law_one", "_law_other"] (defScope s_11) := ⟨rfl, rfl, rfl, by decide +kernel, rfl, by decide +kernel, by decide +kernel⟩
theorem rb_11 {f : Addr} {X : Cx} {Wx : WX} (N : Nam K mg) (Z : Xt P w K mg base) (hX : ∃ (cdv : Value) (A : Around) (outer : List Env) (s : Shared) (H : Hp) (E : XK), X = cxOf (L2.CX P w) P w K mg base ["_law_one", "_law_other", "_law_k"] d_11.qual (defScope s_11) f cdv A outer s H E) (G : Gd (tb.lw K) X Wx k c) : RSs (tb.lw K) X Wx (defBody s_11) (B_11 c) := by
  obtain ⟨cdv, A, outer, s, H, E, rfl⟩ := hX
  exact (rss_cons (pr2 0 1 G (ra_cons (re_bfn (rc_abs) rfl N.b_abs bb_abs (ra_cons (ev 0) ra_nil)) (ra_cons (re_bfn (rc_abs) rfl N.b_abs bb_abs (ra_cons (ev 1) ra_nil)) ra_nil))) (rss_cons (rs_for G.po G.calm (ri_range1 rfl N.b_range (ra_cons (re_bin (r2_bin G .Pow) re_int re_int) ra_nil)) (gv 2 G) (rss_cons (rs_if (rt_cmp (rtv_tru G) (r2_eq G) (ev 1) re_int rfl) (rss_one rs_break) rss_nil) (rss_one (pr2 0 1 G (ra_cons (ev 1) (ra_cons (re_bin (r2_bin G .Mod) (re_bty rc_int rfl N.b_int bb_int (ra_cons (ev 0) ra_nil)) (ev 1)) ra_nil)))))) (rss_one (rs_ret (ev 0)))))
theorem ok_11 {fd : FuncData} (N : Nam K mg) (Z : Xt P w K mg base) (F : FunD K d_11.name d_11.qual d_11.params d_11.body d_11.scope (d_11.dvs K) (d_11.kws K) (adr K d_11.at_) fd) (fo : FOk (tb.lw K) P w K mg base k c) : FnOk P w K mg base (L2.CX P w) (k + 13) ((tb.lw K).fad 11) ((tb.lw K).fdt 11) ((tb.lw K).fps 11) (spM K (tb.lw K) ((tb.lw K).fps 11).length (fnD 3 (B_11 c))) :=
  fn_rule (N := ["_law_one", "_law_other", "_law_k"]) (funG_of F rfl rfl rfl) sc_11 fo (fun _ _ _ _ _ _ => rfl) fun X Wx hX G => rb_11 N Z hX G
theorem sc_12 : FnScope ["_law_value", "_law_due"] ["_law_value", "_law_due"] (defScope s_12) := ⟨rfl, rfl, rfl, by decide +kernel, rfl, by decide +kernel, by decide +kernel⟩
theorem rb_12 {f : Addr} {X : Cx} {Wx : WX} (N : Nam K mg) (Z : Xt P w K mg base) (hX : ∃ (cdv : Value) (A : Around) (outer : List Env) (s : Shared) (H : Hp) (E : XK), X = cxOf (L2.CX P w) P w K mg base ["_law_value", "_law_due"] d_12.qual (defScope s_12) f cdv A outer s H E) (G : Gd (tb.lw K) X Wx k c) : RSs (tb.lw K) X Wx (defBody s_12) (B_12 c) := by
  obtain ⟨cdv, A, outer, s, H, E, rfl⟩ := hX
  exact (rss_one (rs_ret (re_ifExp (rt_of (rtv_tru G) (ev 1)) (re_cmp r2_is (ev 0) re_bl rfl) (re_cmp r2_is (ev 0) re_bl rfl))))
theorem ok_12 {fd : FuncData} (N : Nam K mg) (Z : Xt P w K mg base) (F : FunD K d_12.name d_12.qual d_12.params d_12.body d_12.scope (d_12.dvs K) (d_12.kws K) (adr K d_12.at_) fd) (fo : FOk (tb.lw K) P w K mg base k c) : FnOk P w K mg base (L2.CX P w) (k + 13) ((tb.lw K).fad 12) ((tb.lw K).fdt 12) ((tb.lw K).fps 12) (spM K (tb.lw K) ((tb.lw K).fps 12).length (fnD 2 (B_12 c))) :=
  fn_rule (N := ["_law_value", "_law_due"]) (funG_of F rfl rfl rfl) sc_12 fo (fun _ _ _ _ _ _ => rfl) fun X Wx hX G => rb_12 N Z hX G
theorem sc_13 : FnScope ["_law_number_here", "_law_times", "_law_found", "_law_k"] ["_law_number_here", "_law_times"] (defScope s_13) := ⟨rfl, rfl, rfl, by decide +kernel, rfl, by decide +kernel, by decide +kernel⟩
theorem rb_13 {f : Addr} {X : Cx} {Wx : WX} (N : Nam K mg) (Z : Xt P w K mg base) (hX : ∃ (cdv : Value) (A : Around) (outer : List Env) (s : Shared) (H : Hp) (E : XK), X = cxOf (L2.CX P w) P w K mg base ["_law_number_here", "_law_times", "_law_found", "_law_k"] d_13.qual (defScope s_13) f cdv A outer s H E) (G : Gd (tb.lw K) X Wx k c) : RSs (tb.lw K) X Wx (defBody s_13) (B_13 c) := by
  obtain ⟨cdv, A, outer, s, H, E, rfl⟩ := hX
  exact (rss_cons (sv 2 G re_int) (rss_cons (rs_for G.po G.calm (ri_range1 rfl N.b_range (ra_cons (ev 1) ra_nil)) (gv 3 G) (rss_one (sv 2 G (re_bin (r2_bin G .Mult) (ev 2) (ev 0))))) (rss_one (rs_ret (ev 2)))))
theorem ok_13 {fd : FuncData} (N : Nam K mg) (Z : Xt P w K mg base) (F : FunD K d_13.name d_13.qual d_13.params d_13.body d_13.scope (d_13.dvs K) (d_13.kws K) (adr K d_13.at_) fd) (fo : FOk (tb.lw K) P w K mg base k c) : FnOk P w K mg base (L2.CX P w) (k + 13) ((tb.lw K).fad 13) ((tb.lw K).fdt 13) ((tb.lw K).fps 13) (spM K (tb.lw K) ((tb.lw K).fps 13).length (fnD 4 (B_13 c))) :=
  fn_rule (N := ["_law_number_here", "_law_times", "_law_found", "_law_k"]) (funG_of F rfl rfl rfl) sc_13 fo (fun _ _ _ _ _ _ => rfl) fun X Wx hX G => rb_13 N Z hX G
theorem sc_14 : FnScope ["_law_value", "_law_due"] ["_law_value", "_law_due"] (defScope s_14) := ⟨rfl, rfl, rfl, by decide +kernel, rfl, by decide +kernel, by decide +kernel⟩
theorem rb_14 {f : Addr} {X : Cx} {Wx : WX} (N : Nam K mg) (Z : Xt P w K mg base) (hX : ∃ (cdv : Value) (A : Around) (outer : List Env) (s : Shared) (H : Hp) (E : XK), X = cxOf (L2.CX P w) P w K mg base ["_law_value", "_law_due"] d_14.qual (defScope s_14) f cdv A outer s H E) (G : Gd (tb.lw K) X Wx k c) : RSs (tb.lw K) X Wx (defBody s_14) (B_14 c) := by
  obtain ⟨cdv, A, outer, s, H, E, rfl⟩ := hX
  exact (rss_one (rs_ret (re_and (rtv_tru G) (re_ist (t := "int") G (by decide) (ev 0) rfl N.b_isinstance rfl N.b_int bb_int) (re_and (rtv_tru G) (re_not (rtv_tru G) (re_ist (t := "bool") G (by decide) (ev 0) rfl N.b_isinstance rfl N.b_bool bb_bool)) (re_one (re_cmp (r2_eq G) (ev 0) (ev 1) rfl))))))
theorem ok_14 {fd : FuncData} (N : Nam K mg) (Z : Xt P w K mg base) (F : FunD K d_14.name d_14.qual d_14.params d_14.body d_14.scope (d_14.dvs K) (d_14.kws K) (adr K d_14.at_) fd) (fo : FOk (tb.lw K) P w K mg base k c) : FnOk P w K mg base (L2.CX P w) (k + 13) ((tb.lw K).fad 14) ((tb.lw K).fdt 14) ((tb.lw K).fps 14) (spM K (tb.lw K) ((tb.lw K).fps 14).length (fnD 2 (B_14 c))) :=
  fn_rule (N := ["_law_value", "_law_due"]) (funG_of F rfl rfl rfl) sc_14 fo (fun _ _ _ _ _ _ => rfl) fun X Wx hX G => rb_14 N Z hX G
theorem sc_15 : FnScope ["_law_value", "_law_top", "_law_bottom"] ["_law_value", "_law_top", "_law_bottom"] (defScope s_15) := ⟨rfl, rfl, rfl, by decide +kernel, rfl, by decide +kernel, by decide +kernel⟩
theorem rb_15 {f : Addr} {X : Cx} {Wx : WX} (N : Nam K mg) (Z : Xt P w K mg base) (hX : ∃ (cdv : Value) (A : Around) (outer : List Env) (s : Shared) (H : Hp) (E : XK), X = cxOf (L2.CX P w) P w K mg base ["_law_value", "_law_top", "_law_bottom"] d_15.qual (defScope s_15) f cdv A outer s H E) (G : Gd (tb.lw K) X Wx k c) : RSs (tb.lw K) X Wx (defBody s_15) (B_15 c) := by
  obtain ⟨cdv, A, outer, s, H, E, rfl⟩ := hX
  exact (rss_cons (rs_if (RW.rt (rw_or (rt_not (rt_of (rtv_tru G) (re_iso (j := 0) G rfl (ev 0) rfl N.b_isinstance rfl N.g_Ratio))) (rw_or (rt_not (rt_of (rtv_tru G) (re_call (i := 14) G rfl rfl N.g__law_whole_is (ra_cons (re_fld (g := 41) G (ev 0)) (ra_cons (re_fld (g := 41) G (ev 0)) ra_nil))))) (rw_or1 (rt_cmp (rtv_tru G) (r2_ord G .Lt) (re_fld (g := 41) G (ev 0)) re_int rfl))))) (rss_one (rs_ret re_bl)) rss_nil) (rss_cons (rs_if (RW.rt (rw_or (rt_not (rt_of (rtv_tru G) (re_call (i := 14) G rfl rfl N.g__law_whole_is (ra_cons (re_fld (g := 40) G (ev 0)) (ra_cons (re_fld (g := 40) G (ev 0)) ra_nil))))) (rw_or1 (rt_cmp (rtv_tru G) (r2_ne G) (re_call (i := 11) G rfl rfl N.g__law_gcd (ra_cons (re_fld (g := 40) G (ev 0)) (ra_cons (re_fld (g := 41) G (ev 0)) ra_nil))) re_int rfl)))) (rss_one (rs_ret re_bl)) rss_nil) (rss_one (rs_ret (re_cmp (r2_eq G) (re_bin (r2_bin G .Mult) (re_fld (g := 40) G (ev 0)) (ev 2)) (re_bin (r2_bin G .Mult) (ev 1) (re_fld (g := 41) G (ev 0))) rfl)))))
theorem ok_15 {fd : FuncData} (N : Nam K mg) (Z : Xt P w K mg base) (F : FunD K d_15.name d_15.qual d_15.params d_15.body d_15.scope (d_15.dvs K) (d_15.kws K) (adr K d_15.at_) fd) (fo : FOk (tb.lw K) P w K mg base k c) : FnOk P w K mg base (L2.CX P w) (k + 13) ((tb.lw K).fad 15) ((tb.lw K).fdt 15) ((tb.lw K).fps 15) (spM K (tb.lw K) ((tb.lw K).fps 15).length (fnD 3 (B_15 c))) :=
  fn_rule (N := ["_law_value", "_law_top", "_law_bottom"]) (funG_of F rfl rfl rfl) sc_15 fo (fun _ _ _ _ _ _ => rfl) fun X Wx hX G => rb_15 N Z hX G
theorem sc_16 : FnScope ["_law_tape"] ["_law_tape"] (defScope s_16) := ⟨rfl, rfl, rfl, by decide +kernel, rfl, by decide +kernel, by decide +kernel⟩
theorem rb_16 {f : Addr} {X : Cx} {Wx : WX} (N : Nam K mg) (Z : Xt P w K mg base) (hX : ∃ (cdv : Value) (A : Around) (outer : List Env) (s : Shared) (H : Hp) (E : XK), X = cxOf (L2.CX P w) P w K mg base ["_law_tape"] d_16.qual (defScope s_16) f cdv A outer s H E) (G : Gd (tb.lw K) X Wx k c) : RSs (tb.lw K) X Wx (defBody s_16) (B_16 c) := by
  obtain ⟨cdv, A, outer, s, H, E, rfl⟩ := hX
  exact (rss_one (rs_ret (re_tup (ra_cons (re_call (i := 10) G rfl rfl N.g__law_number (ra_cons (ev 0) (ra_cons re_int ra_nil))) (ra_cons (re_bin (r2_bin G .Add) re_int (re_call (i := 9) G rfl rfl N.g__law_size (ra_cons (ev 0) (ra_cons re_int ra_nil)))) ra_nil)))))
theorem ok_16 {fd : FuncData} (N : Nam K mg) (Z : Xt P w K mg base) (F : FunD K d_16.name d_16.qual d_16.params d_16.body d_16.scope (d_16.dvs K) (d_16.kws K) (adr K d_16.at_) fd) (fo : FOk (tb.lw K) P w K mg base k c) : FnOk P w K mg base (L2.CX P w) (k + 13) ((tb.lw K).fad 16) ((tb.lw K).fdt 16) ((tb.lw K).fps 16) (spM K (tb.lw K) ((tb.lw K).fps 16).length (fnD 1 (B_16 c))) :=
  fn_rule (N := ["_law_tape"]) (funG_of F rfl rfl rfl) sc_16 fo (fun _ _ _ _ _ _ => rfl) fun X Wx hX G => rb_16 N Z hX G
theorem sc_17 : FnScope ["_law_call", "_law_found", "_law_e"] ["_law_call"] (defScope s_17) := ⟨rfl, rfl, rfl, by decide +kernel, rfl, by decide +kernel, by decide +kernel⟩
theorem gv_17 (N : Nam K mg) (Z : Xt P w K mg base) {X : Cx} {g : Addr} {cdv : Value} {q : Str} (hK : X.K = K) (hm : X.mg = mg) : LamX.GivesTo X ["_law_call", "_law_found", "_law_e"] "_law_refused" (defScope s_17) g cdv (defBody s_17) "_law_call" q (TTt (tb.lw K) X.K hs_17 [(.str "fine"), .non]) := by
  subst hK hm
  exact givesAT (j := 1) (vs0 := [(.str "fine"), .non]) (by decide +kernel) (by decide) (by decide) (fun s H => (.named ⟨rfl, by decide, .inl Z.m_BadNumber⟩ (exm_of Z.e_17_0) rfl rfl (hr_set (sx_tup (sa_cons (sx_ifx (sx_isx (b := true) (cv := (.type "ValueError")) (vv := (.ty "ValueError")) Z.xe_BadNumber rfl (.inl rfl) rfl N.b_isinstance (fun _ _ _ => pe_bltn rfl N.b_ValueError (by kernel_rfl) rfl) (fun u r => r) Z.ki_BadNumber_ValueError) sx_str sx_str) (sa_cons (sx_fld Z.xf_BadNumber.1 Z.xf_BadNumber.2 rfl (.inl rfl) (show (["value"] : List Str).Nodup from by decide +kernel) (by rfl)) sa_nil))) (show (1 : Nat) ≠ 2 from by decide) (show (["_law_call", "_law_found", "_law_e"] : List Str).Nodup from by decide +kernel) rfl (.inl rfl)) .nil)) (fun h hh => by simp only [hs_17, List.mem_cons, List.not_mem_nil, or_false] at hh; rcases hh with rfl <;> exact ⟨_, rfl⟩) (fun _ _ => rfl) rfl (fun _ _ => .inl rfl) (fun _ _ => pe_tp0 (pe_tup (pa_cons pe_str (pa_cons pe_non pa_nil))) (fun _ _ _ h => ⟨by show 2 ≤ sizeLine; decide, h⟩)) (fun _ _ => rfl)
theorem rb_17 {f : Addr} {X : Cx} {Wx : WX} (N : Nam K mg) (Z : Xt P w K mg base) (hX : ∃ (cdv : Value) (A : Around) (outer : List Env) (s : Shared) (H : Hp) (E : XK), X = cxOf (L2.CX P w) P w K mg base ["_law_call", "_law_found", "_law_e"] d_17.qual (defScope s_17) f cdv A outer s H E) (G : Gd (tb.lw K) X Wx k c) : RSs (tb.lw K) X Wx (defBody s_17) (B_17 c) := by
  obtain ⟨cdv, A, outer, s, H, E, rfl⟩ := hX
  exact (rss_cons (sv 1 G (re_tup (ra_cons re_str (ra_cons re_non ra_nil)))) (rss_cons rs_no (rss_one (rs_ret (ev 1)))))
theorem ok_17 {fd : FuncData} (N : Nam K mg) (Z : Xt P w K mg base) (F : FunD K d_17.name d_17.qual d_17.params d_17.body d_17.scope (d_17.dvs K) (d_17.kws K) (adr K d_17.at_) fd) (fo : FOk (tb.lw K) P w K mg base k c) : FnOk P w K mg base (L2.CX P w) (k + 13) ((tb.lw K).fad 17) ((tb.lw K).fdt 17) ((tb.lw K).fps 17) (spM K (tb.lw K) ((tb.lw K).fps 17).length (fnD 3 (B_17 c))) :=
  fn_rule (N := ["_law_call", "_law_found", "_law_e"]) (funG_of F rfl rfl rfl) sc_17 fo (fun _ _ _ _ _ _ => rfl) fun X Wx hX G => rb_17 N Z hX G
theorem sc_18 : FnScope ["_law_one", "_law_other", "_law_a", "_law_b", "_law_n", "_law_d", "_law_m", "_law_e"] ["_law_one", "_law_other", "_law_a", "_law_b"] (defScope s_18) := ⟨rfl, rfl, rfl, by decide +kernel, rfl, by decide +kernel, by decide +kernel⟩
theorem rb_18 {f : Addr} {X : Cx} {Wx : WX} (N : Nam K mg) (Z : Xt P w K mg base) (hX : ∃ (cdv : Value) (A : Around) (outer : List Env) (s : Shared) (H : Hp) (E : XK), X = cxOf (L2.CX P w) P w K mg base ["_law_one", "_law_other", "_law_a", "_law_b", "_law_n", "_law_d", "_law_m", "_law_e"] d_18.qual (defScope s_18) f cdv A outer s H E) (G : Gd (tb.lw K) X Wx k c) : RSs (tb.lw K) X Wx (defBody s_18) (B_18 c) := by
  obtain ⟨cdv, A, outer, s, H, E, rfl⟩ := hX
  exact (rss_cons (rs_asg (re_tup (ra_cons (re_ix G (ev 0) re_int) (ra_cons (re_ix G (ev 0) re_int) (ra_cons (re_ix G (ev 1) re_int) (ra_cons (re_ix G (ev 1) re_int) ra_nil))))) (gt G (rgs_cons (gv 4 G) (rgs_cons (gv 5 G) (rgs_cons (gv 6 G) (rgs_cons (gv 7 G) rgs_nil)))))) (rss_cons (rs_if (RW.rt (rw_or (rt_not (rt_of (rtv_tru G) (re_call (i := 15) G rfl rfl N.g__law_ratio_is (ra_cons (re_bin (r2_bin G .Add) (ev 2) (ev 3)) (ra_cons (re_bin (r2_bin G .Add) (re_bin (r2_bin G .Mult) (ev 4) (ev 7)) (re_bin (r2_bin G .Mult) (ev 6) (ev 5))) (ra_cons (re_bin (r2_bin G .Mult) (ev 5) (ev 7)) ra_nil)))))) (rw_or (rt_not (rt_of (rtv_tru G) (re_call (i := 15) G rfl rfl N.g__law_ratio_is (ra_cons (re_bin (r2_bin G .Sub) (ev 2) (ev 3)) (ra_cons (re_bin (r2_bin G .Sub) (re_bin (r2_bin G .Mult) (ev 4) (ev 7)) (re_bin (r2_bin G .Mult) (ev 6) (ev 5))) (ra_cons (re_bin (r2_bin G .Mult) (ev 5) (ev 7)) ra_nil)))))) (rw_or1 (rt_not (rt_of (rtv_tru G) (re_call (i := 15) G rfl rfl N.g__law_ratio_is (ra_cons (re_bin (r2_bin G .Mult) (ev 2) (ev 3)) (ra_cons (re_bin (r2_bin G .Mult) (ev 4) (ev 6)) (ra_cons (re_bin (r2_bin G .Mult) (ev 5) (ev 7)) ra_nil)))))))))) (rss_one (rs_ret re_bl)) rss_nil) (rss_cons (rs_if (RW.rt (rw_or (rt_not (rt_of (rtv_tru G) (re_call (i := 15) G rfl rfl N.g__law_ratio_is (ra_cons (re_un (r1_neg G) (ev 2)) (ra_cons (re_un (r1_neg G) (ev 4)) (ra_cons (ev 5) ra_nil)))))) (rw_or1 (rt_not (rt_of (rtv_tru G) (re_call (i := 15) G rfl rfl N.g__law_ratio_is (ra_cons (re_bfn (rc_absO G) rfl N.b_abs bb_abs (ra_cons (ev 2) ra_nil)) (ra_cons (re_bfn (rc_absO G) rfl N.b_abs bb_abs (ra_cons (ev 4) ra_nil)) (ra_cons (ev 5) ra_nil))))))))) (rss_one (rs_ret re_bl)) rss_nil) (rss_one (rs_ret (re_and (rtv_tru G) (re_call (i := 14) G rfl rfl N.g__law_whole_is (ra_cons (re_meth0 (i := 43) G (ev 2)) (ra_cons (re_bin (r2_bin G .FloorDiv) (ev 4) (ev 5)) ra_nil))) (re_one (re_call (i := 14) G rfl rfl N.g__law_whole_is (ra_cons (re_meth0 (i := 42) G (ev 2)) (ra_cons (re_un (r1_neg G) (re_bin (r2_bin G .FloorDiv) (re_un (r1_neg G) (ev 4)) (ev 5))) ra_nil))))))))))
theorem ok_18 {fd : FuncData} (N : Nam K mg) (Z : Xt P w K mg base) (F : FunD K d_18.name d_18.qual d_18.params d_18.body d_18.scope (d_18.dvs K) (d_18.kws K) (adr K d_18.at_) fd) (fo : FOk (tb.lw K) P w K mg base k c) : FnOk P w K mg base (L2.CX P w) (k + 13) ((tb.lw K).fad 18) ((tb.lw K).fdt 18) ((tb.lw K).fps 18) (spM K (tb.lw K) ((tb.lw K).fps 18).length (fnD 8 (B_18 c))) :=
  fn_rule (N := ["_law_one", "_law_other", "_law_a", "_law_b", "_law_n", "_law_d", "_law_m", "_law_e"]) (funG_of F rfl rfl rfl) sc_18 fo (fun _ _ _ _ _ _ => rfl) fun X Wx hX G => rb_18 N Z hX G
theorem sc_19 : FnScope ["_law_one", "_law_number_here", "_law_a", "_law_n", "_law_d", "_law_same", "_law_rows", "_law_value", "_law_due"] ["_law_one", "_law_number_here", "_law_a"] (defScope s_19) := ⟨rfl, rfl, rfl, by decide +kernel, rfl, by decide +kernel, by decide +kernel⟩
theorem rb_19 {f : Addr} {X : Cx} {Wx : WX} (N : Nam K mg) (Z : Xt P w K mg base) (hX : ∃ (cdv : Value) (A : Around) (outer : List Env) (s : Shared) (H : Hp) (E : XK), X = cxOf (L2.CX P w) P w K mg base ["_law_one", "_law_number_here", "_law_a", "_law_n", "_law_d", "_law_same", "_law_rows", "_law_value", "_law_due"] d_19.qual (defScope s_19) f cdv A outer s H E) (G : Gd (tb.lw K) X Wx k c) : RSs (tb.lw K) X Wx (defBody s_19) (B_19 c) := by
  obtain ⟨cdv, A, outer, s, H, E, rfl⟩ := hX
  exact (rss_cons (rs_asg (ev 0) (gt G (rgs_cons (gv 3 G) (rgs_cons (gv 4 G) rgs_nil)))) (rss_cons (rs_if (RW.rt (rw_or (rt_not (rt_of (rtv_tru G) (re_call (i := 15) G rfl rfl N.g__law_ratio_is (ra_cons (re_bin (r2_bin G .Add) (ev 2) (ev 1)) (ra_cons (re_bin (r2_bin G .Add) (ev 3) (re_bin (r2_bin G .Mult) (ev 1) (ev 4))) (ra_cons (ev 4) ra_nil)))))) (rw_or1 (rt_not (rt_of (rtv_tru G) (re_call (i := 15) G rfl rfl N.g__law_ratio_is (ra_cons (re_bin (r2_bin G .Add) (ev 1) (ev 2)) (ra_cons (re_bin (r2_bin G .Add) (ev 3) (re_bin (r2_bin G .Mult) (ev 1) (ev 4))) (ra_cons (ev 4) ra_nil))))))))) (rss_one (rs_ret re_bl)) rss_nil) (rss_cons (rs_if (RW.rt (rw_or (rt_not (rt_of (rtv_tru G) (re_call (i := 15) G rfl rfl N.g__law_ratio_is (ra_cons (re_bin (r2_bin G .Sub) (ev 2) (ev 1)) (ra_cons (re_bin (r2_bin G .Sub) (ev 3) (re_bin (r2_bin G .Mult) (ev 1) (ev 4))) (ra_cons (ev 4) ra_nil)))))) (rw_or1 (rt_not (rt_of (rtv_tru G) (re_call (i := 15) G rfl rfl N.g__law_ratio_is (ra_cons (re_bin (r2_bin G .Sub) (ev 1) (ev 2)) (ra_cons (re_bin (r2_bin G .Sub) (re_bin (r2_bin G .Mult) (ev 1) (ev 4)) (ev 3)) (ra_cons (ev 4) ra_nil))))))))) (rss_one (rs_ret re_bl)) rss_nil) (rss_cons (rs_if (RW.rt (rw_or (rt_not (rt_of (rtv_tru G) (re_call (i := 15) G rfl rfl N.g__law_ratio_is (ra_cons (re_bin (r2_bin G .Mult) (ev 2) (ev 1)) (ra_cons (re_bin (r2_bin G .Mult) (ev 3) (ev 1)) (ra_cons (ev 4) ra_nil)))))) (rw_or1 (rt_not (rt_of (rtv_tru G) (re_call (i := 15) G rfl rfl N.g__law_ratio_is (ra_cons (re_bin (r2_bin G .Mult) (ev 1) (ev 2)) (ra_cons (re_bin (r2_bin G .Mult) (ev 3) (ev 1)) (ra_cons (ev 4) ra_nil))))))))) (rss_one (rs_ret re_bl)) rss_nil) (rss_cons (sv 5 G (re_bin (r2_bin G .Mult) (ev 1) (ev 4))) (rss_cons (sv 6 G (re_lst (ra_cons (re_tup (ra_cons (re_cmp (r2_eqI G) (ev 2) (ev 1) rfl) (ra_cons (re_cmp (r2_eqI G) (ev 3) (ev 5) rfl) ra_nil))) (ra_cons (re_tup (ra_cons (re_cmp (r2_eqI G) (ev 1) (ev 2) rfl) (ra_cons (re_cmp (r2_eqI G) (ev 3) (ev 5) rfl) ra_nil))) (ra_cons (re_tup (ra_cons (re_cmp (r2_ord G .Lt) (ev 2) (ev 1) rfl) (ra_cons (re_cmp (r2_ord G .Lt) (ev 3) (ev 5) rfl) ra_nil))) ra_nil))))) (rss_cons (sv 6 G (re_bin (r2_bin G .Add) (ev 6) (re_lst (ra_cons (re_tup (ra_cons (re_cmp (r2_ord G .Lt) (ev 1) (ev 2) rfl) (ra_cons (re_cmp (r2_ord G .Lt) (ev 5) (ev 3) rfl) ra_nil))) (ra_cons (re_tup (ra_cons (re_cmp (r2_ord G .LtE) (ev 2) (ev 1) rfl) (ra_cons (re_cmp (r2_ord G .LtE) (ev 3) (ev 5) rfl) ra_nil))) (ra_cons (re_tup (ra_cons (re_cmp (r2_ord G .LtE) (ev 1) (ev 2) rfl) (ra_cons (re_cmp (r2_ord G .LtE) (ev 5) (ev 3) rfl) ra_nil))) ra_nil)))))) (rss_cons (sv 6 G (re_bin (r2_bin G .Add) (ev 6) (re_lst (ra_cons (re_tup (ra_cons (re_cmp (r2_ord G .Gt) (ev 2) (ev 1) rfl) (ra_cons (re_cmp (r2_ord G .Gt) (ev 3) (ev 5) rfl) ra_nil))) (ra_cons (re_tup (ra_cons (re_cmp (r2_ord G .Gt) (ev 1) (ev 2) rfl) (ra_cons (re_cmp (r2_ord G .Gt) (ev 5) (ev 3) rfl) ra_nil))) (ra_cons (re_tup (ra_cons (re_cmp (r2_ord G .GtE) (ev 2) (ev 1) rfl) (ra_cons (re_cmp (r2_ord G .GtE) (ev 3) (ev 5) rfl) ra_nil))) ra_nil)))))) (rss_cons (rs_for G.po G.calm (ri_seq (re_bin (r2_bin G .Add) (ev 6) (re_lst (ra_cons (re_tup (ra_cons (re_cmp (r2_ord G .GtE) (ev 1) (ev 2) rfl) (ra_cons (re_cmp (r2_ord G .GtE) (ev 5) (ev 3) rfl) ra_nil))) ra_nil)))) (gt G (rgs_cons (gv 7 G) (rgs_cons (gv 8 G) rgs_nil))) (rss_one (rs_if (rt_not (rt_of (rtv_tru G) (re_call (i := 12) G rfl rfl N.g__law_truth (ra_cons (ev 7) (ra_cons (ev 8) ra_nil))))) (rss_one (rs_ret re_bl)) rss_nil))) (rss_one (rs_ret re_bl)))))))))))
theorem ok_19 {fd : FuncData} (N : Nam K mg) (Z : Xt P w K mg base) (F : FunD K d_19.name d_19.qual d_19.params d_19.body d_19.scope (d_19.dvs K) (d_19.kws K) (adr K d_19.at_) fd) (fo : FOk (tb.lw K) P w K mg base k c) : FnOk P w K mg base (L2.CX P w) (k + 13) ((tb.lw K).fad 19) ((tb.lw K).fdt 19) ((tb.lw K).fps 19) (spM K (tb.lw K) ((tb.lw K).fps 19).length (fnD 9 (B_19 c))) :=
  fn_rule (N := ["_law_one", "_law_number_here", "_law_a", "_law_n", "_law_d", "_law_same", "_law_rows", "_law_value", "_law_due"]) (funG_of F rfl rfl rfl) sc_19 fo (fun _ _ _ _ _ _ => rfl) fun X Wx hX G => rb_19 N Z hX G
theorem sc_20 : FnScope ["_law_one", "_law_other", "_law_a", "_law_b", "_law_left", "_law_right", "_law_rows", "_law_value", "_law_due"] ["_law_one", "_law_other", "_law_a", "_law_b"] (defScope s_20) := ⟨rfl, rfl, rfl, by decide +kernel, rfl, by decide +kernel, by decide +kernel⟩
theorem rb_20 {f : Addr} {X : Cx} {Wx : WX} (N : Nam K mg) (Z : Xt P w K mg base) (hX : ∃ (cdv : Value) (A : Around) (outer : List Env) (s : Shared) (H : Hp) (E : XK), X = cxOf (L2.CX P w) P w K mg base ["_law_one", "_law_other", "_law_a", "_law_b", "_law_left", "_law_right", "_law_rows", "_law_value", "_law_due"] d_20.qual (defScope s_20) f cdv A outer s H E) (G : Gd (tb.lw K) X Wx k c) : RSs (tb.lw K) X Wx (defBody s_20) (B_20 c) := by
  obtain ⟨cdv, A, outer, s, H, E, rfl⟩ := hX
  exact (rss_cons (pr2 4 5 G (ra_cons (re_bin (r2_bin G .Mult) (re_ix G (ev 0) re_int) (re_ix G (ev 1) re_int)) (ra_cons (re_bin (r2_bin G .Mult) (re_ix G (ev 1) re_int) (re_ix G (ev 0) re_int)) ra_nil))) (rss_cons (sv 6 G (re_lst (ra_cons (re_tup (ra_cons (re_cmp (r2_eq G) (ev 2) (ev 3) rfl) (ra_cons (re_cmp (r2_eq G) (ev 4) (ev 5) rfl) ra_nil))) (ra_cons (re_tup (ra_cons (re_cmp (r2_ne G) (ev 2) (ev 3) rfl) (ra_cons (re_cmp (r2_ne G) (ev 4) (ev 5) rfl) ra_nil))) (ra_cons (re_tup (ra_cons (re_cmp (r2_ord G .Lt) (ev 2) (ev 3) rfl) (ra_cons (re_cmp (r2_ord G .Lt) (ev 4) (ev 5) rfl) ra_nil))) ra_nil))))) (rss_cons (sv 6 G (re_bin (r2_bin G .Add) (ev 6) (re_lst (ra_cons (re_tup (ra_cons (re_cmp (r2_ord G .LtE) (ev 2) (ev 3) rfl) (ra_cons (re_cmp (r2_ord G .LtE) (ev 4) (ev 5) rfl) ra_nil))) (ra_cons (re_tup (ra_cons (re_cmp (r2_ord G .Gt) (ev 2) (ev 3) rfl) (ra_cons (re_cmp (r2_ord G .Gt) (ev 4) (ev 5) rfl) ra_nil))) (ra_cons (re_tup (ra_cons (re_cmp (r2_ord G .GtE) (ev 2) (ev 3) rfl) (ra_cons (re_cmp (r2_ord G .GtE) (ev 4) (ev 5) rfl) ra_nil))) ra_nil)))))) (rss_cons (rs_for G.po G.calm (ri_seq (ev 6)) (gt G (rgs_cons (gv 7 G) (rgs_cons (gv 8 G) rgs_nil))) (rss_one (rs_if (rt_not (rt_of (rtv_tru G) (re_call (i := 12) G rfl rfl N.g__law_truth (ra_cons (ev 7) (ra_cons (ev 8) ra_nil))))) (rss_one (rs_ret re_bl)) rss_nil))) (rss_one (rs_ret re_bl))))))
theorem ok_20 {fd : FuncData} (N : Nam K mg) (Z : Xt P w K mg base) (F : FunD K d_20.name d_20.qual d_20.params d_20.body d_20.scope (d_20.dvs K) (d_20.kws K) (adr K d_20.at_) fd) (fo : FOk (tb.lw K) P w K mg base k c) : FnOk P w K mg base (L2.CX P w) (k + 13) ((tb.lw K).fad 20) ((tb.lw K).fdt 20) ((tb.lw K).fps 20) (spM K (tb.lw K) ((tb.lw K).fps 20).length (fnD 9 (B_20 c))) :=
  fn_rule (N := ["_law_one", "_law_other", "_law_a", "_law_b", "_law_left", "_law_right", "_law_rows", "_law_value", "_law_due"]) (funG_of F rfl rfl rfl) sc_20 fo (fun _ _ _ _ _ _ => rfl) fun X Wx hX G => rb_20 N Z hX G
theorem sc_21 : FnScope ["_law_one", "_law_other", "_law_number_here", "_law_a", "_law_b", "_law_n", "_law_d", "_law_m", "_law_e", "_law_times", "_law_left", "_law_exact", "_law_rest"] ["_law_one", "_law_other", "_law_number_here", "_law_a", "_law_b"] (defScope s_21) := ⟨rfl, rfl, rfl, by decide +kernel, rfl, by decide +kernel, by decide +kernel⟩
theorem rb_21 {f : Addr} {X : Cx} {Wx : WX} (N : Nam K mg) (Z : Xt P w K mg base) (hX : ∃ (cdv : Value) (A : Around) (outer : List Env) (s : Shared) (H : Hp) (E : XK), X = cxOf (L2.CX P w) P w K mg base ["_law_one", "_law_other", "_law_number_here", "_law_a", "_law_b", "_law_n", "_law_d", "_law_m", "_law_e", "_law_times", "_law_left", "_law_exact", "_law_rest"] d_21.qual (defScope s_21) f cdv A outer s H E) (G : Gd (tb.lw K) X Wx k c) : RSs (tb.lw K) X Wx (defBody s_21) (B_21 c) := by
  obtain ⟨cdv, A, outer, s, H, E, rfl⟩ := hX
  exact (rss_cons (rs_asg (re_tup (ra_cons (re_ix G (ev 0) re_int) (ra_cons (re_ix G (ev 0) re_int) (ra_cons (re_ix G (ev 1) re_int) (ra_cons (re_ix G (ev 1) re_int) ra_nil))))) (gt G (rgs_cons (gv 5 G) (rgs_cons (gv 6 G) (rgs_cons (gv 7 G) (rgs_cons (gv 8 G) rgs_nil)))))) (rss_cons (rs_if (rt_cmp (rtv_tru G) (r2_ne G) (ev 7) re_int rfl) (rss_cons (sv 9 G (re_bin (r2_bin G .FloorDiv) (re_bin (r2_bin G .Mult) (ev 5) (ev 8)) (re_bin (r2_bin G .Mult) (ev 6) (ev 7)))) (rss_cons (pr2 10 11 G (ra_cons (re_bin (r2_bin G .Sub) (re_bin (r2_bin G .Mult) (ev 5) (ev 8)) (re_bin (r2_bin G .Mult) (re_bin (r2_bin G .Mult) (ev 9) (ev 7)) (ev 6))) (ra_cons (re_meth (i := 44) G (ev 3) (ra_cons (ev 4) ra_nil)) ra_nil))) (rss_cons (rs_if (RW.rt (rw_or (rt_not (rt_of (rtv_tru G) (re_call (i := 14) G rfl rfl N.g__law_whole_is (ra_cons (re_bin (r2_bin G .FloorDiv) (ev 3) (ev 4)) (ra_cons (ev 9) ra_nil))))) (rw_or1 (rt_not (rt_of (rtv_tru G) (re_call (i := 15) G rfl rfl N.g__law_ratio_is (ra_cons (re_bin (r2_bin G .Mod) (ev 3) (ev 4)) (ra_cons (ev 10) (ra_cons (re_bin (r2_bin G .Mult) (ev 6) (ev 8)) ra_nil))))))))) (rss_one (rs_ret re_bl)) rss_nil) (rss_one (rs_if (rt_not (rt_of (rtv_tru G) (re_call (i := 15) G rfl rfl N.g__law_ratio_is (ra_cons (ev 11) (ra_cons (re_bin (r2_bin G .Mult) (ev 5) (ev 8)) (ra_cons (re_bin (r2_bin G .Mult) (ev 6) (ev 7)) ra_nil)))))) (rss_one (rs_ret re_bl)) rss_nil))))) rss_nil) (rss_cons (rs_if (rt_cmp (rtv_tru G) (r2_ne G) (ev 2) re_int rfl) (rss_cons (sv 9 G (re_bin (r2_bin G .FloorDiv) (ev 5) (re_bin (r2_bin G .Mult) (ev 6) (ev 2)))) (rss_cons (pr2 10 11 G (ra_cons (re_bin (r2_bin G .Sub) (ev 5) (re_bin (r2_bin G .Mult) (re_bin (r2_bin G .Mult) (ev 9) (ev 2)) (ev 6))) (ra_cons (re_meth (i := 44) G (ev 3) (ra_cons (ev 2) ra_nil)) ra_nil))) (rss_cons (rs_if (RW.rt (rw_or (rt_not (rt_of (rtv_tru G) (re_call (i := 14) G rfl rfl N.g__law_whole_is (ra_cons (re_bin (r2_bin G .FloorDiv) (ev 3) (ev 2)) (ra_cons (ev 9) ra_nil))))) (rw_or1 (rt_not (rt_of (rtv_tru G) (re_call (i := 15) G rfl rfl N.g__law_ratio_is (ra_cons (re_bin (r2_bin G .Mod) (ev 3) (ev 2)) (ra_cons (ev 10) (ra_cons (ev 6) ra_nil))))))))) (rss_one (rs_ret re_bl)) rss_nil) (rss_one (rs_if (rt_not (rt_of (rtv_tru G) (re_call (i := 15) G rfl rfl N.g__law_ratio_is (ra_cons (ev 11) (ra_cons (ev 5) (ra_cons (re_bin (r2_bin G .Mult) (ev 6) (ev 2)) ra_nil)))))) (rss_one (rs_ret re_bl)) rss_nil))))) rss_nil) (rss_cons (rs_if (rt_cmp (rtv_tru G) (r2_ne G) (ev 5) re_int rfl) (rss_cons (sv 9 G (re_bin (r2_bin G .FloorDiv) (re_bin (r2_bin G .Mult) (ev 2) (ev 6)) (ev 5))) (rss_cons (pr2 10 12 G (ra_cons (re_bin (r2_bin G .Sub) (re_bin (r2_bin G .Mult) (ev 2) (ev 6)) (re_bin (r2_bin G .Mult) (ev 9) (ev 5))) (ra_cons (re_bin (r2_bin G .Mod) (ev 2) (ev 3)) ra_nil))) (rss_one (rs_if (RW.rt (rw_or (rt_not (rt_of (rtv_tru G) (re_call (i := 14) G rfl rfl N.g__law_whole_is (ra_cons (re_bin (r2_bin G .FloorDiv) (ev 2) (ev 3)) (ra_cons (ev 9) ra_nil))))) (rw_or1 (rt_not (rt_of (rtv_tru G) (re_call (i := 15) G rfl rfl N.g__law_ratio_is (ra_cons (ev 12) (ra_cons (ev 10) (ra_cons (ev 6) ra_nil))))))))) (rss_one (rs_ret re_bl)) rss_nil)))) rss_nil) (rss_one (rs_ret re_bl))))))
theorem ok_21 {fd : FuncData} (N : Nam K mg) (Z : Xt P w K mg base) (F : FunD K d_21.name d_21.qual d_21.params d_21.body d_21.scope (d_21.dvs K) (d_21.kws K) (adr K d_21.at_) fd) (fo : FOk (tb.lw K) P w K mg base k c) : FnOk P w K mg base (L2.CX P w) (k + 13) ((tb.lw K).fad 21) ((tb.lw K).fdt 21) ((tb.lw K).fps 21) (spM K (tb.lw K) ((tb.lw K).fps 21).length (fnD 13 (B_21 c))) :=
  fn_rule (N := ["_law_one", "_law_other", "_law_number_here", "_law_a", "_law_b", "_law_n", "_law_d", "_law_m", "_law_e", "_law_times", "_law_left", "_law_exact", "_law_rest"]) (funG_of F rfl rfl rfl) sc_21 fo (fun _ _ _ _ _ _ => rfl) fun X Wx hX G => rb_21 N Z hX G
theorem sc_22 : FnScope ["_law_one", "_law_a", "_law_n", "_law_d", "_law_rows", "_law_value", "_law_times", "_law_common", "_law_text"] ["_law_one", "_law_a"] (defScope s_22) := ⟨rfl, rfl, rfl, by decide +kernel, rfl, by decide +kernel, by decide +kernel⟩
theorem rb_22 {f : Addr} {X : Cx} {Wx : WX} (N : Nam K mg) (Z : Xt P w K mg base) (hX : ∃ (cdv : Value) (A : Around) (outer : List Env) (s : Shared) (H : Hp) (E : XK), X = cxOf (L2.CX P w) P w K mg base ["_law_one", "_law_a", "_law_n", "_law_d", "_law_rows", "_law_value", "_law_times", "_law_common", "_law_text"] d_22.qual (defScope s_22) f cdv A outer s H E) (G : Gd (tb.lw K) X Wx k c) : RSs (tb.lw K) X Wx (defBody s_22) (B_22 c) := by
  obtain ⟨cdv, A, outer, s, H, E, rfl⟩ := hX
  exact (rss_cons (rs_asg (ev 0) (gt G (rgs_cons (gv 2 G) (rgs_cons (gv 3 G) rgs_nil)))) (rss_cons (sv 4 G (re_lst (ra_cons (re_tup (ra_cons (re_bin (r2_bin G .Pow) (ev 1) re_int) (ra_cons re_int ra_nil))) (ra_cons (re_tup (ra_cons (re_bin (r2_bin G .Pow) (ev 1) re_int) (ra_cons re_int ra_nil))) (ra_cons (re_tup (ra_cons (re_bin (r2_bin G .Pow) (ev 1) re_int) (ra_cons re_int ra_nil))) (ra_cons (re_tup (ra_cons (re_bin (r2_bin G .Pow) (ev 1) re_int) (ra_cons re_int ra_nil))) (ra_cons (re_tup (ra_cons (re_bin (r2_bin G .Pow) (ev 1) re_int) (ra_cons re_int ra_nil))) ra_nil))))))) (rss_cons (rs_for G.po G.calm (ri_seq (re_sl (ev 4) ro_no (ro_so (re_call (i := 23) G rfl rfl N.g__law_few (ra_cons (ev 0) ra_nil))))) (gt G (rgs_cons (gv 5 G) (rgs_cons (gv 6 G) rgs_nil))) (rss_one (rs_if (rt_not (rt_of (rtv_tru G) (re_call (i := 15) G rfl rfl N.g__law_ratio_is (ra_cons (ev 5) (ra_cons (re_call (i := 13) G rfl rfl N.g__law_power (ra_cons (ev 2) (ra_cons (ev 6) ra_nil))) (ra_cons (re_call (i := 13) G rfl rfl N.g__law_power (ra_cons (ev 3) (ra_cons (ev 6) ra_nil))) ra_nil)))))) (rss_one (rs_ret re_bl)) rss_nil))) (rss_cons (rs_if (RW.rt (rw_or (rt_not (rt_of (rtv_tru G) (re_call (i := 12) G rfl rfl N.g__law_truth (ra_cons (re_bty (rc_bool G) rfl N.b_bool bb_bool (ra_cons (ev 1) ra_nil)) (ra_cons (re_cmp (r2_ne G) (ev 2) re_int rfl) ra_nil))))) (rw_or1 (rt_not (rt_of (rtv_tru G) (re_call (i := 14) G rfl rfl N.g__law_whole_is (ra_cons (re_meth0 (i := 45) G (ev 1)) (ra_cons (re_bin (r2_bin G .Sub) (re_bty rc_int rfl N.b_int bb_int (ra_cons (re_cmp (r2_ord G .Gt) (ev 2) re_int rfl) ra_nil)) (re_bty rc_int rfl N.b_int bb_int (ra_cons (re_cmp (r2_ord G .Lt) (ev 2) re_int rfl) ra_nil))) ra_nil)))))))) (rss_one (rs_ret re_bl)) rss_nil) (rss_cons (sv 7 G (re_call (i := 11) G rfl rfl N.g__law_gcd (ra_cons (ev 2) (ra_cons (ev 3) ra_nil)))) (rss_cons (sv 8 G (re_ifExp (rt_cmp (rtv_tru G) (r2_eq G) (ev 3) (ev 7) rfl) (re_bty (rc_strO G) rfl N.b_str bb_str (ra_cons (re_bin (r2_bin G .FloorDiv) (ev 2) (ev 7)) ra_nil)) (re_bin (r2_bin G .Add) (re_bin (r2_bin G .Add) (re_bty (rc_strO G) rfl N.b_str bb_str (ra_cons (re_bin (r2_bin G .FloorDiv) (ev 2) (ev 7)) ra_nil)) re_str) (re_bty (rc_strO G) rfl N.b_str bb_str (ra_cons (re_bin (r2_bin G .FloorDiv) (ev 3) (ev 7)) ra_nil))))) (rss_cons (rs_if (RW.rt (rw_or (rt_cmp (rtv_tru G) (r2_eq G) (ev 1) (ev 8) rfl) (rw_or (rt_cmp (rtv_tru G) (r2_eq G) (ev 1) re_non rfl) (rw_or (rt_cmp (rtv_tru G) (r2_eq G) (ev 1) (re_tup (ra_cons (re_fld (g := 40) G (ev 1)) (ra_cons (re_fld (g := 41) G (ev 1)) ra_nil))) rfl) (rw_or1 (rt_not (rt_cmp (rtv_tru G) (r2_ne G) (ev 1) re_str rfl))))))) (rss_one (rs_ret re_bl)) rss_nil) (rss_cons (rs_if (RW.rt (rw_or (rt_cmp (rtv_tru G) (r2_ne G) (re_bty (rc_strO G) rfl N.b_str bb_str (ra_cons (ev 1) ra_nil)) (ev 8) rfl) (rw_or1 (rt_not (rt_of (rtv_tru G) (re_call (i := 12) G rfl rfl N.g__law_truth (ra_cons (re_meth0 (i := 46) G (ev 1)) (ra_cons (re_cmp (r2_eq G) (ev 3) (ev 7) rfl) ra_nil)))))))) (rss_one (rs_ret re_bl)) rss_nil) (rss_one (rs_ret (re_and (rtv_tru G) (re_call (i := 15) G rfl rfl N.g__law_ratio_is (ra_cons (re_call (i := 3) G rfl rfl N.g_ratio_of (ra_cons (ev 1) ra_nil)) (ra_cons (ev 2) (ra_cons (ev 3) ra_nil)))) (re_one (re_call (i := 15) G rfl rfl N.g__law_ratio_is (ra_cons (re_call (i := 3) G rfl rfl N.g_ratio_of (ra_cons (ev 2) ra_nil)) (ra_cons (ev 2) (ra_cons re_int ra_nil))))))))))))))))
theorem ok_22 {fd : FuncData} (N : Nam K mg) (Z : Xt P w K mg base) (F : FunD K d_22.name d_22.qual d_22.params d_22.body d_22.scope (d_22.dvs K) (d_22.kws K) (adr K d_22.at_) fd) (fo : FOk (tb.lw K) P w K mg base k c) : FnOk P w K mg base (L2.CX P w) (k + 13) ((tb.lw K).fad 22) ((tb.lw K).fdt 22) ((tb.lw K).fps 22) (spM K (tb.lw K) ((tb.lw K).fps 22).length (fnD 9 (B_22 c))) :=
  fn_rule (N := ["_law_one", "_law_a", "_law_n", "_law_d", "_law_rows", "_law_value", "_law_times", "_law_common", "_law_text"]) (funG_of F rfl rfl rfl) sc_22 fo (fun _ _ _ _ _ _ => rfl) fun X Wx hX G => rb_22 N Z hX G
theorem sc_23 : FnScope ["_law_one"] ["_law_one"] (defScope s_23) := ⟨rfl, rfl, rfl, by decide +kernel, rfl, by decide +kernel, by decide +kernel⟩
theorem rb_23 {f : Addr} {X : Cx} {Wx : WX} (N : Nam K mg) (Z : Xt P w K mg base) (hX : ∃ (cdv : Value) (A : Around) (outer : List Env) (s : Shared) (H : Hp) (E : XK), X = cxOf (L2.CX P w) P w K mg base ["_law_one"] d_23.qual (defScope s_23) f cdv A outer s H E) (G : Gd (tb.lw K) X Wx k c) : RSs (tb.lw K) X Wx (defBody s_23) (B_23 c) := by
  obtain ⟨cdv, A, outer, s, H, E, rfl⟩ := hX
  exact (rss_one (rs_ret (re_ifExp (rt_cmp (rtv_tru G) (r2_ord G .Lt) (re_bin (r2_bin G .Add) (re_bfn (rc_abs) rfl N.b_abs bb_abs (ra_cons (re_ix G (ev 0) re_int) ra_nil)) (re_ix G (ev 0) re_int)) (re_bin (r2_bin G .Pow) re_int re_int) rfl) re_int re_int)))
theorem ok_23 {fd : FuncData} (N : Nam K mg) (Z : Xt P w K mg base) (F : FunD K d_23.name d_23.qual d_23.params d_23.body d_23.scope (d_23.dvs K) (d_23.kws K) (adr K d_23.at_) fd) (fo : FOk (tb.lw K) P w K mg base k c) : FnOk P w K mg base (L2.CX P w) (k + 13) ((tb.lw K).fad 23) ((tb.lw K).fdt 23) ((tb.lw K).fps 23) (spM K (tb.lw K) ((tb.lw K).fps 23).length (fnD 1 (B_23 c))) :=
  fn_rule (N := ["_law_one"]) (funG_of F rfl rfl rfl) sc_23 fo (fun _ _ _ _ _ _ => rfl) fun X Wx hX G => rb_23 N Z hX G
theorem sc_24 : FnScope ["_law_tape", "_law_one", "_law_a", "_law_odd", "_law_number_here", "_law_zero", "_law_calls", "_law_k", "_law_found", "_law_call"] ["_law_tape", "_law_one", "_law_a"] (defScope s_24) := ⟨rfl, rfl, rfl, by decide +kernel, rfl, by decide +kernel, by decide +kernel⟩
theorem rb_24 {f : Addr} {X : Cx} {Wx : WX} (N : Nam K mg) (Z : Xt P w K mg base) {gc : Fn} (GC : GdC P w K mg base k gc) {cdv : Value} (hcd : cdv = .ref (codeA K d_24.at_)) (hX : ∃ (A : Around) (outer : List Env) (s : Shared) (H : Hp) (E : XK), X = cxOf (L2.CX P w) P w K mg base ["_law_tape", "_law_one", "_law_a", "_law_odd", "_law_number_here", "_law_zero", "_law_calls", "_law_k", "_law_found", "_law_call"] d_24.qual (defScope s_24) f cdv A outer s H E) (hr : Room (k + 12) X.A) (hg : X.A.guards = some []) (G : Gd (tb.lw K) X Wx k c) : RSs (tb.lw K) X Wx (defBody s_24) (B_24 c gc X.env.cells) := by
  obtain ⟨A, outer, s, H, E, rfl⟩ := hX
  have HB : BsOk (tb.lw K) (cxOf (L2.CX P w) P w K mg base ["_law_tape", "_law_one", "_law_a", "_law_odd", "_law_number_here", "_law_zero", "_law_calls", "_law_k", "_law_found", "_law_call"] d_24.qual (defScope s_24) f cdv A outer s H E) k c (bs_24 c) := .cons ⟨rfl, LamX.lamS_by (by kernel_rfl), fun _ _ _ _ _ => rfl, fun X6 W6 hX6 G6 => by
    obtain ⟨_, _, _, _, _, _, _, rfl⟩ := hX6
    exact (re_mk (i := 0) (f := 26) G6 rfl rfl N.g_Ratio (ra_cons (ev 3) (ra_cons re_int ra_nil)))⟩ (.cons ⟨rfl, LamX.lamS_by (by kernel_rfl), fun _ _ _ _ _ => rfl, fun X5 W5 hX5 G5 => by
    obtain ⟨_, _, _, _, _, _, _, rfl⟩ := hX5
    exact (re_mk (i := 0) (f := 26) G5 rfl rfl N.g_Ratio (ra_cons re_int (ra_cons (ev 3) ra_nil)))⟩ (.cons ⟨rfl, LamX.lamS_by (by kernel_rfl), fun _ _ _ _ _ => rfl, fun X4 W4 hX4 G4 => by
    obtain ⟨_, _, _, _, _, _, _, rfl⟩ := hX4
    exact (re_call (i := 3) G4 rfl rfl N.g_ratio_of (ra_cons (ev 3) ra_nil))⟩ (.cons ⟨rfl, LamX.lamS_by (by kernel_rfl), fun _ _ _ _ _ => rfl, fun X3 W3 hX3 G3 => by
    obtain ⟨_, _, _, _, _, _, _, rfl⟩ := hX3
    exact (re_meth (i := 44) G3 (ev 2) (ra_cons (ev 3) ra_nil))⟩ (.cons ⟨rfl, LamX.lamS_by (by kernel_rfl), fun _ _ _ _ _ => rfl, fun X2 W2 hX2 G2 => by
    obtain ⟨_, _, _, _, _, _, _, rfl⟩ := hX2
    exact (re_mk (i := 0) (f := 26) G2 rfl rfl N.g_Ratio (ra_cons (ev 3) (ra_cons re_int ra_nil)))⟩ (.cons ⟨rfl, LamX.lamS_by (by kernel_rfl), fun _ _ _ _ _ => rfl, fun X1 W1 hX1 G1 => by
    obtain ⟨_, _, _, _, _, _, _, rfl⟩ := hX1
    exact (re_mk (i := 0) (f := 26) G1 rfl rfl N.g_Ratio (ra_cons (ev 4) (ra_cons re_int ra_nil)))⟩ (.cons ⟨rfl, LamX.lamS_by (by kernel_rfl), fun _ _ _ _ _ => rfl, fun X11 W11 hX11 G11 => by
    obtain ⟨_, _, _, _, _, _, _, rfl⟩ := hX11
    exact (re_meth (i := 44) G11 (ev 2) (ra_cons (ev 5) ra_nil))⟩ (.cons ⟨rfl, LamX.lamS_by (by kernel_rfl), fun _ _ _ _ _ => rfl, fun X10 W10 hX10 G10 => by
    obtain ⟨_, _, _, _, _, _, _, rfl⟩ := hX10
    exact (re_bin (r2_bin G10 .FloorDiv) (ev 2) (ev 5))⟩ (.cons ⟨rfl, LamX.lamS_by (by kernel_rfl), fun _ _ _ _ _ => rfl, fun X9 W9 hX9 G9 => by
    obtain ⟨_, _, _, _, _, _, _, rfl⟩ := hX9
    exact (re_bin (r2_bin G9 .Mod) (ev 2) (ev 5))⟩ (.cons ⟨rfl, LamX.lamS_by (by kernel_rfl), fun _ _ _ _ _ => rfl, fun X8 W8 hX8 G8 => by
    obtain ⟨_, _, _, _, _, _, _, rfl⟩ := hX8
    exact (re_bin (r2_bin G8 .FloorDiv) (ev 4) (re_mk (i := 0) (f := 26) G8 rfl rfl N.g_Ratio (ra_cons re_int ra_nil)))⟩ (.cons ⟨rfl, LamX.lamS_by (by kernel_rfl), fun _ _ _ _ _ => rfl, fun X7 W7 hX7 G7 => by
    obtain ⟨_, _, _, _, _, _, _, rfl⟩ := hX7
    exact (re_bin (r2_bin G7 .Mod) (ev 4) (re_mk (i := 0) (f := 26) G7 rfl rfl N.g_Ratio (ra_cons re_int (ra_cons re_int ra_nil))))⟩ (.cons ⟨rfl, LamX.lamS_by (by kernel_rfl), fun _ _ _ _ _ => rfl, fun X15 W15 hX15 G15 => by
    obtain ⟨_, _, _, _, _, _, _, rfl⟩ := hX15
    exact (re_meth (i := 44) G15 (ev 2) (ra_cons (re_ix G15 (ev 1) re_int) ra_nil))⟩ (.cons ⟨rfl, LamX.lamS_by (by kernel_rfl), fun _ _ _ _ _ => rfl, fun X14 W14 hX14 G14 => by
    obtain ⟨_, _, _, _, _, _, _, rfl⟩ := hX14
    exact (re_bin (r2_bin G14 .Pow) (re_mk (i := 0) (f := 26) G14 rfl rfl N.g_Ratio (ra_cons re_int (ra_cons re_int ra_nil))) re_int)⟩ (.cons ⟨rfl, LamX.lamS_by (by kernel_rfl), fun _ _ _ _ _ => rfl, fun X13 W13 hX13 G13 => by
    obtain ⟨_, _, _, _, _, _, _, rfl⟩ := hX13
    exact (re_bin (r2_bin G13 .FloorDiv) (re_mk (i := 0) (f := 26) G13 rfl rfl N.g_Ratio (ra_cons re_int ra_nil)) (re_mk (i := 0) (f := 26) G13 rfl rfl N.g_Ratio (ra_cons re_int (ra_cons re_int ra_nil))))⟩ (.cons ⟨rfl, LamX.lamS_by (by kernel_rfl), fun _ _ _ _ _ => rfl, fun X12 W12 hX12 G12 => by
    obtain ⟨_, _, _, _, _, _, _, rfl⟩ := hX12
    exact (re_bin (r2_bin G12 .Pow) (re_mk (i := 0) (f := 26) G12 rfl rfl N.g_Ratio (ra_cons re_int ra_nil)) re_int)⟩ (.nil)))))))))))))))
  exact (rss_cons (sv 3 G (re_call (i := 6) G rfl rfl N.g__law_pick (ra_cons (ev 0) (ra_cons (re_lst (ra_cons re_non (ra_cons re_bl (ra_cons re_bl (ra_cons re_str (ra_cons (re_lst ra_nil) (ra_cons (re_tup (ra_cons re_int (ra_cons re_int ra_nil))) (ra_cons re_str ra_nil)))))))) ra_nil)))) (rss_cons (sv 4 G (re_call (i := 10) G rfl rfl N.g__law_number (ra_cons (ev 0) (ra_cons re_int ra_nil)))) (rss_cons (sv 5 G (re_call (i := 6) G rfl rfl N.g__law_pick (ra_cons (ev 0) (ra_cons (re_lst (ra_cons re_int (ra_cons (re_mk (i := 0) (f := 26) G rfl rfl N.g_Ratio (ra_cons re_int ra_nil)) (ra_cons (re_mk (i := 0) (f := 26) G rfl rfl N.g_Ratio (ra_cons re_int (ra_cons re_int ra_nil))) ra_nil)))) ra_nil)))) (rss_cons (sv 6 G (re_lst (ra_cons (re_clo (Z.tab _ (List.mem_map.mpr ⟨_, lam_24, rfl⟩)) hcd (List.mem_map.mpr ⟨_, lam_24, rfl⟩) (fun p hp e => apart_of Z.apart (List.mem_map.mpr ⟨_, lam_24, rfl⟩) hp e) (LamX.lamS_by (by kernel_rfl)) rfl) (ra_cons (re_clo (Z.tab _ (List.mem_map.mpr ⟨_, lam_24, rfl⟩)) hcd (List.mem_map.mpr ⟨_, lam_24, rfl⟩) (fun p hp e => apart_of Z.apart (List.mem_map.mpr ⟨_, lam_24, rfl⟩) hp e) (LamX.lamS_by (by kernel_rfl)) rfl) (ra_cons (re_clo (Z.tab _ (List.mem_map.mpr ⟨_, lam_24, rfl⟩)) hcd (List.mem_map.mpr ⟨_, lam_24, rfl⟩) (fun p hp e => apart_of Z.apart (List.mem_map.mpr ⟨_, lam_24, rfl⟩) hp e) (LamX.lamS_by (by kernel_rfl)) rfl) (ra_cons (re_clo (Z.tab _ (List.mem_map.mpr ⟨_, lam_24, rfl⟩)) hcd (List.mem_map.mpr ⟨_, lam_24, rfl⟩) (fun p hp e => apart_of Z.apart (List.mem_map.mpr ⟨_, lam_24, rfl⟩) hp e) (LamX.lamS_by (by kernel_rfl)) rfl) (ra_cons (re_clo (Z.tab _ (List.mem_map.mpr ⟨_, lam_24, rfl⟩)) hcd (List.mem_map.mpr ⟨_, lam_24, rfl⟩) (fun p hp e => apart_of Z.apart (List.mem_map.mpr ⟨_, lam_24, rfl⟩) hp e) (LamX.lamS_by (by kernel_rfl)) rfl) (ra_cons (re_clo (Z.tab _ (List.mem_map.mpr ⟨_, lam_24, rfl⟩)) hcd (List.mem_map.mpr ⟨_, lam_24, rfl⟩) (fun p hp e => apart_of Z.apart (List.mem_map.mpr ⟨_, lam_24, rfl⟩) hp e) (LamX.lamS_by (by kernel_rfl)) rfl) ra_nil)))))))) (rss_cons (rs_for G.po G.calm (ri_range1 rfl N.b_range (ra_cons re_int ra_nil)) (gv 7 G) (rss_cons (sv 8 G (re_lamVT G hr (TryT.mk (hs := hs_17) (ds0 := [(.str "fine"), .non]) (vs0 := [(.str "fine"), .non]) (fun _ => Rls.mk (Rl.str.mpr rfl) (Rls.mk (Rl.non.mpr rfl) (Rls.nil.mpr rfl))) N.g__law_refused Z.f_17.kp (funG_of Z.f_17 rfl rfl rfl) (bind_at Z.f_17 rfl rfl fun _ _ _ _ _ _ us hl => (match us, hl with | [_], _ => rfl)) sc_17 rfl (.inl rfl) (fun cdv _ => gv_17 N Z rfl rfl) (by decide) (by decide) (by decide)) HB rfl (re_ix G (ev 6) (ev 7)))) (rss_one (rs_if (RW.rt (rw_or (rt_cmp (rtv_tru G) (r2_ne G) (re_ix G (ev 8) re_int) re_str rfl) (rw_or1 (rt_cmp (rtv_tru G) (r2_ne G) (re_bfn (rc_repr G hg) rfl N.b_repr PyProof.Rows.boot_repr (ra_cons (re_ix G (ev 8) re_int) ra_nil)) (re_bfn (rc_repr G hg) rfl N.b_repr PyProof.Rows.boot_repr (ra_cons (re_ifExp (rt_cmp (rtv_tru G) (r2_ord G .Lt) (ev 7) re_int rfl) (ev 3) re_int) ra_nil)) rfl)))) (rss_one (rs_ret re_bl)) rss_nil)))) (rss_cons (sv 6 G (re_lst (ra_cons (re_clo (Z.tab _ (List.mem_map.mpr ⟨_, lam_24, rfl⟩)) hcd (List.mem_map.mpr ⟨_, lam_24, rfl⟩) (fun p hp e => apart_of Z.apart (List.mem_map.mpr ⟨_, lam_24, rfl⟩) hp e) (LamX.lamS_by (by kernel_rfl)) rfl) (ra_cons (re_clo (Z.tab _ (List.mem_map.mpr ⟨_, lam_24, rfl⟩)) hcd (List.mem_map.mpr ⟨_, lam_24, rfl⟩) (fun p hp e => apart_of Z.apart (List.mem_map.mpr ⟨_, lam_24, rfl⟩) hp e) (LamX.lamS_by (by kernel_rfl)) rfl) (ra_cons (re_clo (Z.tab _ (List.mem_map.mpr ⟨_, lam_24, rfl⟩)) hcd (List.mem_map.mpr ⟨_, lam_24, rfl⟩) (fun p hp e => apart_of Z.apart (List.mem_map.mpr ⟨_, lam_24, rfl⟩) hp e) (LamX.lamS_by (by kernel_rfl)) rfl) (ra_cons (re_clo (Z.tab _ (List.mem_map.mpr ⟨_, lam_24, rfl⟩)) hcd (List.mem_map.mpr ⟨_, lam_24, rfl⟩) (fun p hp e => apart_of Z.apart (List.mem_map.mpr ⟨_, lam_24, rfl⟩) hp e) (LamX.lamS_by (by kernel_rfl)) rfl) (ra_cons (re_clo (Z.tab _ (List.mem_map.mpr ⟨_, lam_24, rfl⟩)) hcd (List.mem_map.mpr ⟨_, lam_24, rfl⟩) (fun p hp e => apart_of Z.apart (List.mem_map.mpr ⟨_, lam_24, rfl⟩) hp e) (LamX.lamS_by (by kernel_rfl)) rfl) ra_nil))))))) (rss_cons (rs_for G.po G.calm (ri_seq (ev 6)) (gv 9 G) (rss_cons (sv 8 G (re_lamVT G hr (TryT.mk (hs := hs_17) (ds0 := [(.str "fine"), .non]) (vs0 := [(.str "fine"), .non]) (fun _ => Rls.mk (Rl.str.mpr rfl) (Rls.mk (Rl.non.mpr rfl) (Rls.nil.mpr rfl))) N.g__law_refused Z.f_17.kp (funG_of Z.f_17 rfl rfl rfl) (bind_at Z.f_17 rfl rfl fun _ _ _ _ _ _ us hl => (match us, hl with | [_], _ => rfl)) sc_17 rfl (.inl rfl) (fun cdv _ => gv_17 N Z rfl rfl) (by decide) (by decide) (by decide)) HB rfl (ev 9))) (rss_one (rs_if (RW.rt (rw_or (rt_cmp (rtv_tru G) (r2_ne G) (re_ix G (ev 8) re_int) re_str rfl) (rw_or (rt_not (rt_cmp (rtv_tru G) (r2_eq G) (re_ix G (ev 8) re_int) re_int rfl)) (rw_or1 (rt_of (rtv_tru G) (re_ist (t := "bool") G (by decide) (re_ix G (ev 8) re_int) rfl N.b_isinstance rfl N.b_bool bb_bool)))))) (rss_one (rs_ret re_bl)) rss_nil)))) (rss_cons (sv 6 G (re_lst (ra_cons (re_clo (Z.tab _ (List.mem_map.mpr ⟨_, lam_24, rfl⟩)) hcd (List.mem_map.mpr ⟨_, lam_24, rfl⟩) (fun p hp e => apart_of Z.apart (List.mem_map.mpr ⟨_, lam_24, rfl⟩) hp e) (LamX.lamS_by (by kernel_rfl)) rfl) (ra_cons (re_clo (Z.tab _ (List.mem_map.mpr ⟨_, lam_24, rfl⟩)) hcd (List.mem_map.mpr ⟨_, lam_24, rfl⟩) (fun p hp e => apart_of Z.apart (List.mem_map.mpr ⟨_, lam_24, rfl⟩) hp e) (LamX.lamS_by (by kernel_rfl)) rfl) (ra_cons (re_clo (Z.tab _ (List.mem_map.mpr ⟨_, lam_24, rfl⟩)) hcd (List.mem_map.mpr ⟨_, lam_24, rfl⟩) (fun p hp e => apart_of Z.apart (List.mem_map.mpr ⟨_, lam_24, rfl⟩) hp e) (LamX.lamS_by (by kernel_rfl)) rfl) (ra_cons (re_clo (Z.tab _ (List.mem_map.mpr ⟨_, lam_24, rfl⟩)) hcd (List.mem_map.mpr ⟨_, lam_24, rfl⟩) (fun p hp e => apart_of Z.apart (List.mem_map.mpr ⟨_, lam_24, rfl⟩) hp e) (LamX.lamS_by (by kernel_rfl)) rfl) ra_nil)))))) (rss_one (rs_ret (re_cmp (r2_eq G) (re_lcI G (ri_seq (ev 6)) (blkOk_by (own := [("_law_call", 9)]) (by kernel_rfl)) (fun s1 H1 C1 cl1 fp1 => (gv 9 (G.blk s1 H1 _ _ fp1))) (fun pi1 si1 s1 H1 C1 cl1 fp1 => rti_of rts_nil) (fun pi1 si1 s1 H1 C1 cl1 fp1 => (rei_ix0 (rei_lamVT G hr (TryT.mk (hs := hs_17) (ds0 := [(.str "fine"), .non]) (vs0 := [(.str "fine"), .non]) (fun _ => Rls.mk (Rl.str.mpr rfl) (Rls.mk (Rl.non.mpr rfl) (Rls.nil.mpr rfl))) N.g__law_refused Z.f_17.kp (funG_of Z.f_17 rfl rfl rfl) (bind_at Z.f_17 rfl rfl fun _ _ _ _ _ _ us hl => (match us, hl with | [_], _ => rfl)) sc_17 rfl (.inl rfl) (fun cdv _ => gv_17 N Z rfl rfl) (by decide) (by decide) (by decide)) HB rfl (ev 9)))) (by decide)) (re_bin (r2_bin G .Mult) (re_lst (ra_cons re_str ra_nil)) re_int) rfl)))))))))))
theorem okg_24 {fd : FuncData} (N : Nam K mg) (Z : Xt P w K mg base) {gc : Fn} (GC : GdC P w K mg base k gc) (F : FunD K d_24.name d_24.qual d_24.params d_24.body d_24.scope (d_24.dvs K) (d_24.kws K) (adr K d_24.at_) fd) (fo : FOk (tb.lw K) P w K mg base k c) : FnP (Bare (k + 13)) P w K mg base (L2.CX P w) ((tb.lw K).fad 24) ((tb.lw K).fdt 24) ((tb.lw K).fps 24) (spM K (tb.lw K) ((tb.lw K).fps 24).length (fnG 10 (B_24 c gc))) := by
  exact fn_ruleP (b := B_24 c gc) (N := ["_law_tape", "_law_one", "_law_a", "_law_odd", "_law_number_here", "_law_zero", "_law_calls", "_law_k", "_law_found", "_law_call"]) (funG_of F rfl rfl rfl) sc_24 fo (fun _ _ _ _ _ _ => rfl) fun X Wx cdv hc hX hr hg G => rb_24 N Z GC (code_at F hc) hX hr hg G
theorem ok_24 {fd : FuncData} (N : Nam K mg) (Z : Xt P w K mg base) (F : FunD K d_24.name d_24.qual d_24.params d_24.body d_24.scope (d_24.dvs K) (d_24.kws K) (adr K d_24.at_) fd) (fo : FOk (tb.lw K) P w K mg base k c) : FnOk P w K mg base (L2.CX P w) (k + 13) ((tb.lw K).fad 24) ((tb.lw K).fdt 24) ((tb.lw K).fps 24) (spM K (tb.lw K) ((tb.lw K).fps 24).length (fun _ _ => .stuck)) := fnOk_stuck
theorem sc_25 : FnScope ["_law_script", "_law_tape", "_law_one", "_law_other", "_law_number_here", "_law_factor", "_law_a", "_law_b"] ["_law_script"] (defScope s_25) := ⟨rfl, rfl, rfl, by decide +kernel, rfl, by decide +kernel, by decide +kernel⟩
theorem rb_25 {f : Addr} {X : Cx} {Wx : WX} (N : Nam K mg) (Z : Xt P w K mg base) {gc : Fn} (GC : GdC P w K mg base k gc) {cdv : Value} (hcd : cdv = .ref (codeA K d_25.at_)) (hX : ∃ (A : Around) (outer : List Env) (s : Shared) (H : Hp) (E : XK), X = cxOf (L2.CX P w) P w K mg base ["_law_script", "_law_tape", "_law_one", "_law_other", "_law_number_here", "_law_factor", "_law_a", "_law_b"] d_25.qual (defScope s_25) f cdv A outer s H E) (hr : Room (k + 12) X.A) (hg : X.A.guards = some []) (G : Gd (tb.lw K) X Wx k c) : RSs (tb.lw K) X Wx (defBody s_25) (B_25 c gc) := by
  obtain ⟨A, outer, s, H, E, rfl⟩ := hX
  exact (rss_cons (sv 1 G (re_call (i := 4) G rfl rfl N.g__law_begin (ra_cons (ev 0) ra_nil))) (rss_cons (pr2 2 3 G (ra_cons (re_call (i := 16) G rfl rfl N.g__law_fraction (ra_cons (ev 1) ra_nil)) (ra_cons (re_call (i := 16) G rfl rfl N.g__law_fraction (ra_cons (ev 1) ra_nil)) ra_nil))) (rss_cons (rs_if (rt_cmp (rtv_tru G) (r2_eq G) (re_call (i := 5) G rfl rfl N.g__law_draw (ra_cons (ev 1) (ra_cons re_int ra_nil))) re_int rfl) (rss_one (sv 3 G (re_tup (ra_cons (re_bin (r2_bin G .Sub) (re_bin (r2_bin G .Add) (re_bin (r2_bin G .Mult) (re_ix G (ev 2) re_int) re_int) (re_call (i := 5) G rfl rfl N.g__law_draw (ra_cons (ev 1) (ra_cons re_int ra_nil)))) re_int) (ra_cons (re_bin (r2_bin G .Mult) (re_ix G (ev 2) re_int) re_int) ra_nil))))) rss_nil) (rss_cons (sv 4 G (re_call (i := 10) G rfl rfl N.g__law_number (ra_cons (ev 1) (ra_cons re_int ra_nil)))) (rss_cons (rs_if (rt_cmp (rtv_tru G) (r2_eq G) (re_call (i := 5) G rfl rfl N.g__law_draw (ra_cons (ev 1) (ra_cons re_int ra_nil))) re_int rfl) (rss_one (sv 4 G (re_bin (r2_bin G .Sub) (re_bin (r2_bin G .Add) (re_bin (r2_bin G .FloorDiv) (re_ix G (ev 2) re_int) (re_ix G (ev 2) re_int)) (re_call (i := 5) G rfl rfl N.g__law_draw (ra_cons (ev 1) (ra_cons re_int ra_nil)))) re_int))) rss_nil) (rss_cons (sv 5 G (re_call (i := 6) G rfl rfl N.g__law_pick (ra_cons (ev 1) (ra_cons (re_lst (ra_cons re_int (ra_cons (re_un (r1_neg G) re_int) (ra_cons re_int (ra_cons (re_un (r1_neg G) re_int) (ra_cons (re_un (r1_neg G) (re_bin (r2_bin G .Pow) re_int re_int)) ra_nil)))))) ra_nil)))) (rss_cons (pr2 6 7 G (ra_cons (re_mk (i := 0) (f := 26) G rfl rfl N.g_Ratio (ra_cons (re_bin (r2_bin G .Mult) (re_ix G (ev 2) re_int) (ev 5)) (ra_cons (re_bin (r2_bin G .Mult) (re_ix G (ev 2) re_int) (ev 5)) ra_nil))) (ra_cons (re_mk (i := 0) (f := 26) G rfl rfl N.g_Ratio (ra_cons (re_un (r1_neg G) (re_ix G (ev 3) re_int)) (ra_cons (re_un (r1_neg G) (re_ix G (ev 3) re_int)) ra_nil))) ra_nil))) (rss_cons (rs_if (RW.rt (rw_or (rt_not (rt_of (rtv_tru G) (re_call (i := 15) G rfl rfl N.g__law_ratio_is (ra_cons (ev 6) (ra_cons (re_ix G (ev 2) re_int) (ra_cons (re_ix G (ev 2) re_int) ra_nil)))))) (rw_or (rt_not (rt_of (rtv_tru G) (re_call (i := 15) G rfl rfl N.g__law_ratio_is (ra_cons (ev 7) (ra_cons (re_ix G (ev 3) re_int) (ra_cons (re_ix G (ev 3) re_int) ra_nil)))))) (rw_or1 (rt_not (rt_of (rtv_tru G) (re_call (i := 15) G rfl rfl N.g__law_ratio_is (ra_cons (re_mk (i := 0) (f := 26) G rfl rfl N.g_Ratio (ra_cons (ev 4) ra_nil)) (ra_cons (ev 4) (ra_cons re_int ra_nil)))))))))) (rss_one (rs_ret re_bl)) rss_nil) (rss_cons (rs_if (RW.rt (rw_or (rt_not (rt_of (rtv_tru G) (re_call (i := 18) G rfl rfl N.g__law_sums_right (ra_cons (ev 2) (ra_cons (ev 3) (ra_cons (ev 6) (ra_cons (ev 7) ra_nil))))))) (rw_or (rt_not (rt_of (rtv_tru G) (re_call (i := 19) G rfl rfl N.g__law_mixed_right (ra_cons (ev 2) (ra_cons (ev 4) (ra_cons (ev 6) ra_nil)))))) (rw_or1 (rt_not (rt_of (rtv_tru G) (re_call (i := 20) G rfl rfl N.g__law_order_right (ra_cons (ev 2) (ra_cons (ev 3) (ra_cons (ev 6) (ra_cons (ev 7) ra_nil))))))))))) (rss_one (rs_ret re_bl)) rss_nil) (rss_cons (rs_if (RW.rt (rw_or (rt_not (rt_of (rtv_tru G) (re_call (i := 21) G rfl rfl N.g__law_floors_right (ra_cons (ev 2) (ra_cons (ev 3) (ra_cons (ev 4) (ra_cons (ev 6) (ra_cons (ev 7) ra_nil)))))))) (rw_or1 (rt_not (rt_of (rtv_tru G) (re_call (i := 22) G rfl rfl N.g__law_shown_right (ra_cons (ev 2) (ra_cons (ev 6) ra_nil)))))))) (rss_one (rs_ret re_bl)) rss_nil) (rss_cons (rs_if (rt_not (rt_of (rtv_tru G) (re_callP (i := 24) G hg rfl (show ([] : List D) ∈ [[]] from List.mem_singleton.mpr rfl) (GC.c_24) rfl N.g__law_refusals_right (ra_cons (ev 1) (ra_cons (ev 2) (ra_cons (ev 6) ra_nil))) rfl))) (rss_one (rs_ret re_bl)) rss_nil) (rss_one (rs_ret (re_and (rtv_tru G) (re_call (i := 15) G rfl rfl N.g__law_ratio_is (ra_cons (ev 6) (ra_cons (re_ix G (ev 2) re_int) (ra_cons (re_ix G (ev 2) re_int) ra_nil)))) (re_one (re_call (i := 15) G rfl rfl N.g__law_ratio_is (ra_cons (ev 7) (ra_cons (re_ix G (ev 3) re_int) (ra_cons (re_ix G (ev 3) re_int) ra_nil)))))))))))))))))))
theorem okg_25 {fd : FuncData} (N : Nam K mg) (Z : Xt P w K mg base) {gc : Fn} (GC : GdC P w K mg base k gc) (F : FunD K d_25.name d_25.qual d_25.params d_25.body d_25.scope (d_25.dvs K) (d_25.kws K) (adr K d_25.at_) fd) (fo : FOk (tb.lw K) P w K mg base k c) : FnP (Bare (k + 13)) P w K mg base (L2.CX P w) ((tb.lw K).fad 25) ((tb.lw K).fdt 25) ((tb.lw K).fps 25) (spM K (tb.lw K) ((tb.lw K).fps 25).length (fnD 8 (B_25 c gc))) := by
  rw [← fnG_const]
  exact fn_ruleP (b := fun _ => B_25 c gc) (N := ["_law_script", "_law_tape", "_law_one", "_law_other", "_law_number_here", "_law_factor", "_law_a", "_law_b"]) (funG_of F rfl rfl rfl) sc_25 fo (fun _ _ _ _ _ _ => rfl) fun X Wx cdv hc hX hr hg G => rb_25 N Z GC (code_at F hc) hX hr hg G
theorem ok_25 {fd : FuncData} (N : Nam K mg) (Z : Xt P w K mg base) (F : FunD K d_25.name d_25.qual d_25.params d_25.body d_25.scope (d_25.dvs K) (d_25.kws K) (adr K d_25.at_) fd) (fo : FOk (tb.lw K) P w K mg base k c) : FnOk P w K mg base (L2.CX P w) (k + 13) ((tb.lw K).fad 25) ((tb.lw K).fdt 25) ((tb.lw K).fps 25) (spM K (tb.lw K) ((tb.lw K).fps 25).length (fun _ _ => .stuck)) := fnOk_stuck
theorem sc_26 : FnScope ["self", "top", "bottom", "value", "common"] ["self", "top", "bottom"] (defScope s_26) := ⟨rfl, rfl, rfl, by decide +kernel, rfl, by decide +kernel, by decide +kernel⟩
theorem rb_26 {f : Addr} {X : Cx} {Wx : WX} (N : Nam K mg) (Z : Xt P w K mg base) (hX : ∃ (cdv : Value) (A : Around) (outer : List Env) (s : Shared) (H : Hp) (E : XK), X = cxOf (L2.CX P w) P w K mg base ["self", "top", "bottom", "value", "common"] d_26.qual (defScope s_26) f cdv A outer s H E) (G : Gd (tb.lw K) X Wx k c) : RSs (tb.lw K) X Wx (defBody s_26) (B_26 c) := by
  obtain ⟨cdv, A, outer, s, H, E, rfl⟩ := hX
  exact (rss_cons (rs_for G.po G.calm (ri_seq (re_tup (ra_cons (ev 1) (ra_cons (ev 2) ra_nil)))) (gv 3 G) (rss_one (rs_if (RW.rt (rw_or (rt_not (rt_of (rtv_tru G) (re_ist (t := "int") G (by decide) (ev 3) rfl N.b_isinstance rfl N.b_int bb_int))) (rw_or1 (rt_of (rtv_tru G) (re_ist (t := "bool") G (by decide) (ev 3) rfl N.b_isinstance rfl N.b_bool bb_bool))))) (rss_one (rs_raise1 G (Z.x_BadNumber _) rfl (ev 3))) rss_nil))) (rss_cons (rs_if (rt_cmp (rtv_tru G) (r2_eq G) (ev 2) re_int rfl) (rss_one (rs_raise1 G (Z.x_BadNumber _) rfl (ev 2))) rss_nil) (rss_cons (sv 4 G (re_call (i := 1) G rfl rfl N.g_gcd_of (ra_cons (ev 1) (ra_cons (ev 2) ra_nil)))) (rss_cons (rs_if (rt_cmp (rtv_tru G) (r2_ord G .Lt) (ev 2) re_int rfl) (rss_one (sv 4 G (re_un (r1_neg G) (ev 4)))) rss_nil) (rss_cons (rs_fld (g := 40) G (ev 0) (re_bin (r2_bin G .FloorDiv) (ev 1) (ev 4))) (rss_one (rs_fld (g := 41) G (ev 0) (re_bin (r2_bin G .FloorDiv) (ev 2) (ev 4)))))))))
theorem ok_26 {fd : FuncData} (N : Nam K mg) (Z : Xt P w K mg base) (F : FunD K d_26.name d_26.qual d_26.params d_26.body d_26.scope (d_26.dvs K) (d_26.kws K) (adr K d_26.at_) fd) (fo : FOk (tb.lw K) P w K mg base k c) : FnOk P w K mg base (L2.CX P w) (k + 13) ((tb.lw K).fad 26) ((tb.lw K).fdt 26) ((tb.lw K).fps 26) (spM K (tb.lw K) ((tb.lw K).fps 26).length (fnD 5 (B_26 c))) :=
  fn_rule (N := ["self", "top", "bottom", "value", "common"]) (funG_of F rfl rfl rfl) sc_26 fo (fun _ _ _ _ _ _ => rfl) fun X Wx hX G => rb_26 N Z hX G
theorem sc_27 : FnScope ["self", "other"] ["self", "other"] (defScope s_27) := ⟨rfl, rfl, rfl, by decide +kernel, rfl, by decide +kernel, by decide +kernel⟩
theorem rb_27 {f : Addr} {X : Cx} {Wx : WX} (N : Nam K mg) (Z : Xt P w K mg base) (hX : ∃ (cdv : Value) (A : Around) (outer : List Env) (s : Shared) (H : Hp) (E : XK), X = cxOf (L2.CX P w) P w K mg base ["self", "other"] d_27.qual (defScope s_27) f cdv A outer s H E) (G : Gd (tb.lw K) X Wx k c) : RSs (tb.lw K) X Wx (defBody s_27) (B_27 c) := by
  obtain ⟨cdv, A, outer, s, H, E, rfl⟩ := hX
  exact (rss_cons (rs_if (rt_not (rt_of (rtv_tru G) (re_call (i := 0) G rfl rfl N.g_is_number (ra_cons (ev 1) ra_nil)))) (rss_one (rs_ret re_bl)) rss_nil) (rss_cons (sv 1 G (re_call (i := 3) G rfl rfl N.g_ratio_of (ra_cons (ev 1) ra_nil))) (rss_one (rs_ret (re_and (rtv_tru G) (re_cmp (r2_eq G) (re_fld (g := 40) G (ev 0)) (re_fld (g := 40) G (ev 1)) rfl) (re_one (re_cmp (r2_eq G) (re_fld (g := 41) G (ev 0)) (re_fld (g := 41) G (ev 1)) rfl)))))))
theorem ok_27 {fd : FuncData} (N : Nam K mg) (Z : Xt P w K mg base) (F : FunD K d_27.name d_27.qual d_27.params d_27.body d_27.scope (d_27.dvs K) (d_27.kws K) (adr K d_27.at_) fd) (fo : FOk (tb.lw K) P w K mg base k c) : FnOk P w K mg base (L2.CX P w) (k + 13) ((tb.lw K).fad 27) ((tb.lw K).fdt 27) ((tb.lw K).fps 27) (spM K (tb.lw K) ((tb.lw K).fps 27).length (fnD 2 (B_27 c))) :=
  fn_rule (N := ["self", "other"]) (funG_of F rfl rfl rfl) sc_27 fo (fun _ _ _ _ _ _ => rfl) fun X Wx hX G => rb_27 N Z hX G
theorem sc_28 : FnScope ["self", "other"] ["self", "other"] (defScope s_28) := ⟨rfl, rfl, rfl, by decide +kernel, rfl, by decide +kernel, by decide +kernel⟩
theorem rb_28 {f : Addr} {X : Cx} {Wx : WX} (N : Nam K mg) (Z : Xt P w K mg base) (hX : ∃ (cdv : Value) (A : Around) (outer : List Env) (s : Shared) (H : Hp) (E : XK), X = cxOf (L2.CX P w) P w K mg base ["self", "other"] d_28.qual (defScope s_28) f cdv A outer s H E) (G : Gd (tb.lw K) X Wx k c) : RSs (tb.lw K) X Wx (defBody s_28) (B_28 c) := by
  obtain ⟨cdv, A, outer, s, H, E, rfl⟩ := hX
  exact (rss_cons (rs_if (rt_not (rt_of (rtv_tru G) (re_call (i := 0) G rfl rfl N.g_is_number (ra_cons (ev 1) ra_nil)))) (rss_one rs_no) rss_nil) (rss_cons (sv 1 G (re_call (i := 3) G rfl rfl N.g_ratio_of (ra_cons (ev 1) ra_nil))) (rss_one (rs_ret (re_cmp (r2_ord G .Lt) (re_bin (r2_bin G .Mult) (re_fld (g := 40) G (ev 0)) (re_fld (g := 41) G (ev 1))) (re_bin (r2_bin G .Mult) (re_fld (g := 40) G (ev 1)) (re_fld (g := 41) G (ev 0))) rfl)))))
theorem ok_28 {fd : FuncData} (N : Nam K mg) (Z : Xt P w K mg base) (F : FunD K d_28.name d_28.qual d_28.params d_28.body d_28.scope (d_28.dvs K) (d_28.kws K) (adr K d_28.at_) fd) (fo : FOk (tb.lw K) P w K mg base k c) : FnOk P w K mg base (L2.CX P w) (k + 13) ((tb.lw K).fad 28) ((tb.lw K).fdt 28) ((tb.lw K).fps 28) (spM K (tb.lw K) ((tb.lw K).fps 28).length (fnD 2 (B_28 c))) :=
  fn_rule (N := ["self", "other"]) (funG_of F rfl rfl rfl) sc_28 fo (fun _ _ _ _ _ _ => rfl) fun X Wx hX G => rb_28 N Z hX G
theorem sc_29 : FnScope ["self", "other"] ["self", "other"] (defScope s_29) := ⟨rfl, rfl, rfl, by decide +kernel, rfl, by decide +kernel, by decide +kernel⟩
theorem rb_29 {f : Addr} {X : Cx} {Wx : WX} (N : Nam K mg) (Z : Xt P w K mg base) (hX : ∃ (cdv : Value) (A : Around) (outer : List Env) (s : Shared) (H : Hp) (E : XK), X = cxOf (L2.CX P w) P w K mg base ["self", "other"] d_29.qual (defScope s_29) f cdv A outer s H E) (G : Gd (tb.lw K) X Wx k c) : RSs (tb.lw K) X Wx (defBody s_29) (B_29 c) := by
  obtain ⟨cdv, A, outer, s, H, E, rfl⟩ := hX
  exact (rss_cons (rs_if (rt_not (rt_of (rtv_tru G) (re_call (i := 0) G rfl rfl N.g_is_number (ra_cons (ev 1) ra_nil)))) (rss_one rs_no) rss_nil) (rss_cons (sv 1 G (re_call (i := 3) G rfl rfl N.g_ratio_of (ra_cons (ev 1) ra_nil))) (rss_one (rs_ret (re_cmp (r2_ord G .LtE) (re_bin (r2_bin G .Mult) (re_fld (g := 40) G (ev 0)) (re_fld (g := 41) G (ev 1))) (re_bin (r2_bin G .Mult) (re_fld (g := 40) G (ev 1)) (re_fld (g := 41) G (ev 0))) rfl)))))
theorem ok_29 {fd : FuncData} (N : Nam K mg) (Z : Xt P w K mg base) (F : FunD K d_29.name d_29.qual d_29.params d_29.body d_29.scope (d_29.dvs K) (d_29.kws K) (adr K d_29.at_) fd) (fo : FOk (tb.lw K) P w K mg base k c) : FnOk P w K mg base (L2.CX P w) (k + 13) ((tb.lw K).fad 29) ((tb.lw K).fdt 29) ((tb.lw K).fps 29) (spM K (tb.lw K) ((tb.lw K).fps 29).length (fnD 2 (B_29 c))) :=
  fn_rule (N := ["self", "other"]) (funG_of F rfl rfl rfl) sc_29 fo (fun _ _ _ _ _ _ => rfl) fun X Wx hX G => rb_29 N Z hX G
theorem sc_30 : FnScope ["self", "other"] ["self", "other"] (defScope s_30) := ⟨rfl, rfl, rfl, by decide +kernel, rfl, by decide +kernel, by decide +kernel⟩
theorem rb_30 {f : Addr} {X : Cx} {Wx : WX} (N : Nam K mg) (Z : Xt P w K mg base) (hX : ∃ (cdv : Value) (A : Around) (outer : List Env) (s : Shared) (H : Hp) (E : XK), X = cxOf (L2.CX P w) P w K mg base ["self", "other"] d_30.qual (defScope s_30) f cdv A outer s H E) (G : Gd (tb.lw K) X Wx k c) : RSs (tb.lw K) X Wx (defBody s_30) (B_30 c) := by
  obtain ⟨cdv, A, outer, s, H, E, rfl⟩ := hX
  exact (rss_cons (rs_if (rt_not (rt_of (rtv_tru G) (re_call (i := 0) G rfl rfl N.g_is_number (ra_cons (ev 1) ra_nil)))) (rss_one rs_no) rss_nil) (rss_cons (sv 1 G (re_call (i := 3) G rfl rfl N.g_ratio_of (ra_cons (ev 1) ra_nil))) (rss_one (rs_ret (re_cmp (r2_ord G .Gt) (re_bin (r2_bin G .Mult) (re_fld (g := 40) G (ev 0)) (re_fld (g := 41) G (ev 1))) (re_bin (r2_bin G .Mult) (re_fld (g := 40) G (ev 1)) (re_fld (g := 41) G (ev 0))) rfl)))))
theorem ok_30 {fd : FuncData} (N : Nam K mg) (Z : Xt P w K mg base) (F : FunD K d_30.name d_30.qual d_30.params d_30.body d_30.scope (d_30.dvs K) (d_30.kws K) (adr K d_30.at_) fd) (fo : FOk (tb.lw K) P w K mg base k c) : FnOk P w K mg base (L2.CX P w) (k + 13) ((tb.lw K).fad 30) ((tb.lw K).fdt 30) ((tb.lw K).fps 30) (spM K (tb.lw K) ((tb.lw K).fps 30).length (fnD 2 (B_30 c))) :=
  fn_rule (N := ["self", "other"]) (funG_of F rfl rfl rfl) sc_30 fo (fun _ _ _ _ _ _ => rfl) fun X Wx hX G => rb_30 N Z hX G
theorem sc_31 : FnScope ["self", "other"] ["self", "other"] (defScope s_31) := ⟨rfl, rfl, rfl, by decide +kernel, rfl, by decide +kernel, by decide +kernel⟩
theorem rb_31 {f : Addr} {X : Cx} {Wx : WX} (N : Nam K mg) (Z : Xt P w K mg base) (hX : ∃ (cdv : Value) (A : Around) (outer : List Env) (s : Shared) (H : Hp) (E : XK), X = cxOf (L2.CX P w) P w K mg base ["self", "other"] d_31.qual (defScope s_31) f cdv A outer s H E) (G : Gd (tb.lw K) X Wx k c) : RSs (tb.lw K) X Wx (defBody s_31) (B_31 c) := by
  obtain ⟨cdv, A, outer, s, H, E, rfl⟩ := hX
  exact (rss_cons (rs_if (rt_not (rt_of (rtv_tru G) (re_call (i := 0) G rfl rfl N.g_is_number (ra_cons (ev 1) ra_nil)))) (rss_one rs_no) rss_nil) (rss_cons (sv 1 G (re_call (i := 3) G rfl rfl N.g_ratio_of (ra_cons (ev 1) ra_nil))) (rss_one (rs_ret (re_cmp (r2_ord G .GtE) (re_bin (r2_bin G .Mult) (re_fld (g := 40) G (ev 0)) (re_fld (g := 41) G (ev 1))) (re_bin (r2_bin G .Mult) (re_fld (g := 40) G (ev 1)) (re_fld (g := 41) G (ev 0))) rfl)))))
theorem ok_31 {fd : FuncData} (N : Nam K mg) (Z : Xt P w K mg base) (F : FunD K d_31.name d_31.qual d_31.params d_31.body d_31.scope (d_31.dvs K) (d_31.kws K) (adr K d_31.at_) fd) (fo : FOk (tb.lw K) P w K mg base k c) : FnOk P w K mg base (L2.CX P w) (k + 13) ((tb.lw K).fad 31) ((tb.lw K).fdt 31) ((tb.lw K).fps 31) (spM K (tb.lw K) ((tb.lw K).fps 31).length (fnD 2 (B_31 c))) :=
  fn_rule (N := ["self", "other"]) (funG_of F rfl rfl rfl) sc_31 fo (fun _ _ _ _ _ _ => rfl) fun X Wx hX G => rb_31 N Z hX G
theorem sc_32 : FnScope ["self", "other"] ["self", "other"] (defScope s_32) := ⟨rfl, rfl, rfl, by decide +kernel, rfl, by decide +kernel, by decide +kernel⟩
theorem rb_32 {f : Addr} {X : Cx} {Wx : WX} (N : Nam K mg) (Z : Xt P w K mg base) (hX : ∃ (cdv : Value) (A : Around) (outer : List Env) (s : Shared) (H : Hp) (E : XK), X = cxOf (L2.CX P w) P w K mg base ["self", "other"] d_32.qual (defScope s_32) f cdv A outer s H E) (G : Gd (tb.lw K) X Wx k c) : RSs (tb.lw K) X Wx (defBody s_32) (B_32 c) := by
  obtain ⟨cdv, A, outer, s, H, E, rfl⟩ := hX
  exact (rss_cons (rs_if (rt_not (rt_of (rtv_tru G) (re_call (i := 0) G rfl rfl N.g_is_number (ra_cons (ev 1) ra_nil)))) (rss_one rs_no) rss_nil) (rss_cons (sv 1 G (re_call (i := 3) G rfl rfl N.g_ratio_of (ra_cons (ev 1) ra_nil))) (rss_one (rs_ret (re_mk (i := 0) (f := 26) G rfl rfl N.g_Ratio (ra_cons (re_bin (r2_bin G .Add) (re_bin (r2_bin G .Mult) (re_fld (g := 40) G (ev 0)) (re_fld (g := 41) G (ev 1))) (re_bin (r2_bin G .Mult) (re_fld (g := 40) G (ev 1)) (re_fld (g := 41) G (ev 0)))) (ra_cons (re_bin (r2_bin G .Mult) (re_fld (g := 41) G (ev 0)) (re_fld (g := 41) G (ev 1))) ra_nil)))))))
theorem ok_32 {fd : FuncData} (N : Nam K mg) (Z : Xt P w K mg base) (F : FunD K d_32.name d_32.qual d_32.params d_32.body d_32.scope (d_32.dvs K) (d_32.kws K) (adr K d_32.at_) fd) (fo : FOk (tb.lw K) P w K mg base k c) : FnOk P w K mg base (L2.CX P w) (k + 13) ((tb.lw K).fad 32) ((tb.lw K).fdt 32) ((tb.lw K).fps 32) (spM K (tb.lw K) ((tb.lw K).fps 32).length (fnD 2 (B_32 c))) :=
  fn_rule (N := ["self", "other"]) (funG_of F rfl rfl rfl) sc_32 fo (fun _ _ _ _ _ _ => rfl) fun X Wx hX G => rb_32 N Z hX G
theorem sc_33 : FnScope ["self", "other"] ["self", "other"] (defScope s_33) := ⟨rfl, rfl, rfl, by decide +kernel, rfl, by decide +kernel, by decide +kernel⟩
theorem rb_33 {f : Addr} {X : Cx} {Wx : WX} (N : Nam K mg) (Z : Xt P w K mg base) (hX : ∃ (cdv : Value) (A : Around) (outer : List Env) (s : Shared) (H : Hp) (E : XK), X = cxOf (L2.CX P w) P w K mg base ["self", "other"] d_33.qual (defScope s_33) f cdv A outer s H E) (G : Gd (tb.lw K) X Wx k c) : RSs (tb.lw K) X Wx (defBody s_33) (B_33 c) := by
  obtain ⟨cdv, A, outer, s, H, E, rfl⟩ := hX
  exact (rss_cons (rs_if (rt_not (rt_of (rtv_tru G) (re_call (i := 0) G rfl rfl N.g_is_number (ra_cons (ev 1) ra_nil)))) (rss_one rs_no) rss_nil) (rss_one (rs_ret (re_mk (i := 0) (f := 26) G rfl rfl N.g_Ratio (ra_cons (re_bin (r2_bin G .Add) (re_fld (g := 40) G (ev 0)) (re_bin (r2_bin G .Mult) (ev 1) (re_fld (g := 41) G (ev 0)))) (ra_cons (re_fld (g := 41) G (ev 0)) ra_nil))))))
theorem ok_33 {fd : FuncData} (N : Nam K mg) (Z : Xt P w K mg base) (F : FunD K d_33.name d_33.qual d_33.params d_33.body d_33.scope (d_33.dvs K) (d_33.kws K) (adr K d_33.at_) fd) (fo : FOk (tb.lw K) P w K mg base k c) : FnOk P w K mg base (L2.CX P w) (k + 13) ((tb.lw K).fad 33) ((tb.lw K).fdt 33) ((tb.lw K).fps 33) (spM K (tb.lw K) ((tb.lw K).fps 33).length (fnD 2 (B_33 c))) :=
  fn_rule (N := ["self", "other"]) (funG_of F rfl rfl rfl) sc_33 fo (fun _ _ _ _ _ _ => rfl) fun X Wx hX G => rb_33 N Z hX G
theorem sc_34 : FnScope ["self", "other"] ["self", "other"] (defScope s_34) := ⟨rfl, rfl, rfl, by decide +kernel, rfl, by decide +kernel, by decide +kernel⟩
theorem rb_34 {f : Addr} {X : Cx} {Wx : WX} (N : Nam K mg) (Z : Xt P w K mg base) (hX : ∃ (cdv : Value) (A : Around) (outer : List Env) (s : Shared) (H : Hp) (E : XK), X = cxOf (L2.CX P w) P w K mg base ["self", "other"] d_34.qual (defScope s_34) f cdv A outer s H E) (G : Gd (tb.lw K) X Wx k c) : RSs (tb.lw K) X Wx (defBody s_34) (B_34 c) := by
  obtain ⟨cdv, A, outer, s, H, E, rfl⟩ := hX
  exact (rss_cons (rs_if (rt_not (rt_of (rtv_tru G) (re_call (i := 0) G rfl rfl N.g_is_number (ra_cons (ev 1) ra_nil)))) (rss_one rs_no) rss_nil) (rss_cons (sv 1 G (re_call (i := 3) G rfl rfl N.g_ratio_of (ra_cons (ev 1) ra_nil))) (rss_one (rs_ret (re_mk (i := 0) (f := 26) G rfl rfl N.g_Ratio (ra_cons (re_bin (r2_bin G .Sub) (re_bin (r2_bin G .Mult) (re_fld (g := 40) G (ev 0)) (re_fld (g := 41) G (ev 1))) (re_bin (r2_bin G .Mult) (re_fld (g := 40) G (ev 1)) (re_fld (g := 41) G (ev 0)))) (ra_cons (re_bin (r2_bin G .Mult) (re_fld (g := 41) G (ev 0)) (re_fld (g := 41) G (ev 1))) ra_nil)))))))
theorem ok_34 {fd : FuncData} (N : Nam K mg) (Z : Xt P w K mg base) (F : FunD K d_34.name d_34.qual d_34.params d_34.body d_34.scope (d_34.dvs K) (d_34.kws K) (adr K d_34.at_) fd) (fo : FOk (tb.lw K) P w K mg base k c) : FnOk P w K mg base (L2.CX P w) (k + 13) ((tb.lw K).fad 34) ((tb.lw K).fdt 34) ((tb.lw K).fps 34) (spM K (tb.lw K) ((tb.lw K).fps 34).length (fnD 2 (B_34 c))) :=
  fn_rule (N := ["self", "other"]) (funG_of F rfl rfl rfl) sc_34 fo (fun _ _ _ _ _ _ => rfl) fun X Wx hX G => rb_34 N Z hX G
theorem sc_35 : FnScope ["self", "other"] ["self", "other"] (defScope s_35) := ⟨rfl, rfl, rfl, by decide +kernel, rfl, by decide +kernel, by decide +kernel⟩
theorem rb_35 {f : Addr} {X : Cx} {Wx : WX} (N : Nam K mg) (Z : Xt P w K mg base) (hX : ∃ (cdv : Value) (A : Around) (outer : List Env) (s : Shared) (H : Hp) (E : XK), X = cxOf (L2.CX P w) P w K mg base ["self", "other"] d_35.qual (defScope s_35) f cdv A outer s H E) (G : Gd (tb.lw K) X Wx k c) : RSs (tb.lw K) X Wx (defBody s_35) (B_35 c) := by
  obtain ⟨cdv, A, outer, s, H, E, rfl⟩ := hX
  exact (rss_cons (rs_if (rt_not (rt_of (rtv_tru G) (re_call (i := 0) G rfl rfl N.g_is_number (ra_cons (ev 1) ra_nil)))) (rss_one rs_no) rss_nil) (rss_one (rs_ret (re_mk (i := 0) (f := 26) G rfl rfl N.g_Ratio (ra_cons (re_bin (r2_bin G .Sub) (re_bin (r2_bin G .Mult) (ev 1) (re_fld (g := 41) G (ev 0))) (re_fld (g := 40) G (ev 0))) (ra_cons (re_fld (g := 41) G (ev 0)) ra_nil))))))
theorem ok_35 {fd : FuncData} (N : Nam K mg) (Z : Xt P w K mg base) (F : FunD K d_35.name d_35.qual d_35.params d_35.body d_35.scope (d_35.dvs K) (d_35.kws K) (adr K d_35.at_) fd) (fo : FOk (tb.lw K) P w K mg base k c) : FnOk P w K mg base (L2.CX P w) (k + 13) ((tb.lw K).fad 35) ((tb.lw K).fdt 35) ((tb.lw K).fps 35) (spM K (tb.lw K) ((tb.lw K).fps 35).length (fnD 2 (B_35 c))) :=
  fn_rule (N := ["self", "other"]) (funG_of F rfl rfl rfl) sc_35 fo (fun _ _ _ _ _ _ => rfl) fun X Wx hX G => rb_35 N Z hX G
theorem sc_36 : FnScope ["self", "other"] ["self", "other"] (defScope s_36) := ⟨rfl, rfl, rfl, by decide +kernel, rfl, by decide +kernel, by decide +kernel⟩
theorem rb_36 {f : Addr} {X : Cx} {Wx : WX} (N : Nam K mg) (Z : Xt P w K mg base) (hX : ∃ (cdv : Value) (A : Around) (outer : List Env) (s : Shared) (H : Hp) (E : XK), X = cxOf (L2.CX P w) P w K mg base ["self", "other"] d_36.qual (defScope s_36) f cdv A outer s H E) (G : Gd (tb.lw K) X Wx k c) : RSs (tb.lw K) X Wx (defBody s_36) (B_36 c) := by
  obtain ⟨cdv, A, outer, s, H, E, rfl⟩ := hX
  exact (rss_cons (rs_if (rt_not (rt_of (rtv_tru G) (re_call (i := 0) G rfl rfl N.g_is_number (ra_cons (ev 1) ra_nil)))) (rss_one rs_no) rss_nil) (rss_cons (sv 1 G (re_call (i := 3) G rfl rfl N.g_ratio_of (ra_cons (ev 1) ra_nil))) (rss_one (rs_ret (re_mk (i := 0) (f := 26) G rfl rfl N.g_Ratio (ra_cons (re_bin (r2_bin G .Mult) (re_fld (g := 40) G (ev 0)) (re_fld (g := 40) G (ev 1))) (ra_cons (re_bin (r2_bin G .Mult) (re_fld (g := 41) G (ev 0)) (re_fld (g := 41) G (ev 1))) ra_nil)))))))
theorem ok_36 {fd : FuncData} (N : Nam K mg) (Z : Xt P w K mg base) (F : FunD K d_36.name d_36.qual d_36.params d_36.body d_36.scope (d_36.dvs K) (d_36.kws K) (adr K d_36.at_) fd) (fo : FOk (tb.lw K) P w K mg base k c) : FnOk P w K mg base (L2.CX P w) (k + 13) ((tb.lw K).fad 36) ((tb.lw K).fdt 36) ((tb.lw K).fps 36) (spM K (tb.lw K) ((tb.lw K).fps 36).length (fnD 2 (B_36 c))) :=
  fn_rule (N := ["self", "other"]) (funG_of F rfl rfl rfl) sc_36 fo (fun _ _ _ _ _ _ => rfl) fun X Wx hX G => rb_36 N Z hX G
theorem sc_37 : FnScope ["self", "other"] ["self", "other"] (defScope s_37) := ⟨rfl, rfl, rfl, by decide +kernel, rfl, by decide +kernel, by decide +kernel⟩
theorem rb_37 {f : Addr} {X : Cx} {Wx : WX} (N : Nam K mg) (Z : Xt P w K mg base) (hX : ∃ (cdv : Value) (A : Around) (outer : List Env) (s : Shared) (H : Hp) (E : XK), X = cxOf (L2.CX P w) P w K mg base ["self", "other"] d_37.qual (defScope s_37) f cdv A outer s H E) (G : Gd (tb.lw K) X Wx k c) : RSs (tb.lw K) X Wx (defBody s_37) (B_37 c) := by
  obtain ⟨cdv, A, outer, s, H, E, rfl⟩ := hX
  exact (rss_cons (rs_if (rt_not (rt_of (rtv_tru G) (re_call (i := 0) G rfl rfl N.g_is_number (ra_cons (ev 1) ra_nil)))) (rss_one rs_no) rss_nil) (rss_one (rs_ret (re_mk (i := 0) (f := 26) G rfl rfl N.g_Ratio (ra_cons (re_bin (r2_bin G .Mult) (ev 1) (re_fld (g := 40) G (ev 0))) (ra_cons (re_fld (g := 41) G (ev 0)) ra_nil))))))
theorem ok_37 {fd : FuncData} (N : Nam K mg) (Z : Xt P w K mg base) (F : FunD K d_37.name d_37.qual d_37.params d_37.body d_37.scope (d_37.dvs K) (d_37.kws K) (adr K d_37.at_) fd) (fo : FOk (tb.lw K) P w K mg base k c) : FnOk P w K mg base (L2.CX P w) (k + 13) ((tb.lw K).fad 37) ((tb.lw K).fdt 37) ((tb.lw K).fps 37) (spM K (tb.lw K) ((tb.lw K).fps 37).length (fnD 2 (B_37 c))) :=
  fn_rule (N := ["self", "other"]) (funG_of F rfl rfl rfl) sc_37 fo (fun _ _ _ _ _ _ => rfl) fun X Wx hX G => rb_37 N Z hX G
theorem sc_38 : FnScope ["self", "other"] ["self", "other"] (defScope s_38) := ⟨rfl, rfl, rfl, by decide +kernel, rfl, by decide +kernel, by decide +kernel⟩
theorem rb_38 {f : Addr} {X : Cx} {Wx : WX} (N : Nam K mg) (Z : Xt P w K mg base) (hX : ∃ (cdv : Value) (A : Around) (outer : List Env) (s : Shared) (H : Hp) (E : XK), X = cxOf (L2.CX P w) P w K mg base ["self", "other"] d_38.qual (defScope s_38) f cdv A outer s H E) (G : Gd (tb.lw K) X Wx k c) : RSs (tb.lw K) X Wx (defBody s_38) (B_38 c) := by
  obtain ⟨cdv, A, outer, s, H, E, rfl⟩ := hX
  exact (rss_cons (rs_if (rt_not (rt_of (rtv_tru G) (re_call (i := 0) G rfl rfl N.g_is_number (ra_cons (ev 1) ra_nil)))) (rss_one rs_no) rss_nil) (rss_one (rs_ret (re_meth0 (i := 43) G (re_meth (i := 44) G (ev 0) (ra_cons (ev 1) ra_nil))))))
theorem ok_38 {fd : FuncData} (N : Nam K mg) (Z : Xt P w K mg base) (F : FunD K d_38.name d_38.qual d_38.params d_38.body d_38.scope (d_38.dvs K) (d_38.kws K) (adr K d_38.at_) fd) (fo : FOk (tb.lw K) P w K mg base k c) : FnOk P w K mg base (L2.CX P w) (k + 13) ((tb.lw K).fad 38) ((tb.lw K).fdt 38) ((tb.lw K).fps 38) (spM K (tb.lw K) ((tb.lw K).fps 38).length (fnD 2 (B_38 c))) :=
  fn_rule (N := ["self", "other"]) (funG_of F rfl rfl rfl) sc_38 fo (fun _ _ _ _ _ _ => rfl) fun X Wx hX G => rb_38 N Z hX G
theorem sc_39 : FnScope ["self", "other"] ["self", "other"] (defScope s_39) := ⟨rfl, rfl, rfl, by decide +kernel, rfl, by decide +kernel, by decide +kernel⟩
theorem rb_39 {f : Addr} {X : Cx} {Wx : WX} (N : Nam K mg) (Z : Xt P w K mg base) (hX : ∃ (cdv : Value) (A : Around) (outer : List Env) (s : Shared) (H : Hp) (E : XK), X = cxOf (L2.CX P w) P w K mg base ["self", "other"] d_39.qual (defScope s_39) f cdv A outer s H E) (G : Gd (tb.lw K) X Wx k c) : RSs (tb.lw K) X Wx (defBody s_39) (B_39 c) := by
  obtain ⟨cdv, A, outer, s, H, E, rfl⟩ := hX
  exact (rss_cons (rs_if (rt_not (rt_of (rtv_tru G) (re_call (i := 0) G rfl rfl N.g_is_number (ra_cons (ev 1) ra_nil)))) (rss_one rs_no) rss_nil) (rss_one (rs_ret (re_meth0 (i := 43) G (re_meth (i := 44) G (re_call (i := 3) G rfl rfl N.g_ratio_of (ra_cons (ev 1) ra_nil)) (ra_cons (ev 0) ra_nil))))))
theorem ok_39 {fd : FuncData} (N : Nam K mg) (Z : Xt P w K mg base) (F : FunD K d_39.name d_39.qual d_39.params d_39.body d_39.scope (d_39.dvs K) (d_39.kws K) (adr K d_39.at_) fd) (fo : FOk (tb.lw K) P w K mg base k c) : FnOk P w K mg base (L2.CX P w) (k + 13) ((tb.lw K).fad 39) ((tb.lw K).fdt 39) ((tb.lw K).fps 39) (spM K (tb.lw K) ((tb.lw K).fps 39).length (fnD 2 (B_39 c))) :=
  fn_rule (N := ["self", "other"]) (funG_of F rfl rfl rfl) sc_39 fo (fun _ _ _ _ _ _ => rfl) fun X Wx hX G => rb_39 N Z hX G
theorem sc_40 : FnScope ["self", "other", "times"] ["self", "other"] (defScope s_40) := ⟨rfl, rfl, rfl, by decide +kernel, rfl, by decide +kernel, by decide +kernel⟩
theorem rb_40 {f : Addr} {X : Cx} {Wx : WX} (N : Nam K mg) (Z : Xt P w K mg base) (hX : ∃ (cdv : Value) (A : Around) (outer : List Env) (s : Shared) (H : Hp) (E : XK), X = cxOf (L2.CX P w) P w K mg base ["self", "other", "times"] d_40.qual (defScope s_40) f cdv A outer s H E) (G : Gd (tb.lw K) X Wx k c) : RSs (tb.lw K) X Wx (defBody s_40) (B_40 c) := by
  obtain ⟨cdv, A, outer, s, H, E, rfl⟩ := hX
  exact (rss_cons (rs_if (rt_not (rt_of (rtv_tru G) (re_call (i := 0) G rfl rfl N.g_is_number (ra_cons (ev 1) ra_nil)))) (rss_one rs_no) rss_nil) (rss_cons (sv 2 G (re_meth0 (i := 43) G (re_meth (i := 44) G (ev 0) (ra_cons (ev 1) ra_nil)))) (rss_one (rs_ret (re_bin (r2_bin G .Sub) (ev 0) (re_bin (r2_bin G .Mult) (ev 2) (re_call (i := 3) G rfl rfl N.g_ratio_of (ra_cons (ev 1) ra_nil))))))))
theorem ok_40 {fd : FuncData} (N : Nam K mg) (Z : Xt P w K mg base) (F : FunD K d_40.name d_40.qual d_40.params d_40.body d_40.scope (d_40.dvs K) (d_40.kws K) (adr K d_40.at_) fd) (fo : FOk (tb.lw K) P w K mg base k c) : FnOk P w K mg base (L2.CX P w) (k + 13) ((tb.lw K).fad 40) ((tb.lw K).fdt 40) ((tb.lw K).fps 40) (spM K (tb.lw K) ((tb.lw K).fps 40).length (fnD 3 (B_40 c))) :=
  fn_rule (N := ["self", "other", "times"]) (funG_of F rfl rfl rfl) sc_40 fo (fun _ _ _ _ _ _ => rfl) fun X Wx hX G => rb_40 N Z hX G
theorem sc_41 : FnScope ["self", "other", "times"] ["self", "other"] (defScope s_41) := ⟨rfl, rfl, rfl, by decide +kernel, rfl, by decide +kernel, by decide +kernel⟩
theorem rb_41 {f : Addr} {X : Cx} {Wx : WX} (N : Nam K mg) (Z : Xt P w K mg base) (hX : ∃ (cdv : Value) (A : Around) (outer : List Env) (s : Shared) (H : Hp) (E : XK), X = cxOf (L2.CX P w) P w K mg base ["self", "other", "times"] d_41.qual (defScope s_41) f cdv A outer s H E) (G : Gd (tb.lw K) X Wx k c) : RSs (tb.lw K) X Wx (defBody s_41) (B_41 c) := by
  obtain ⟨cdv, A, outer, s, H, E, rfl⟩ := hX
  exact (rss_cons (rs_if (rt_not (rt_of (rtv_tru G) (re_call (i := 0) G rfl rfl N.g_is_number (ra_cons (ev 1) ra_nil)))) (rss_one rs_no) rss_nil) (rss_cons (sv 2 G (re_meth0 (i := 43) G (re_meth (i := 44) G (re_call (i := 3) G rfl rfl N.g_ratio_of (ra_cons (ev 1) ra_nil)) (ra_cons (ev 0) ra_nil)))) (rss_one (rs_ret (re_bin (r2_bin G .Sub) (ev 1) (re_bin (r2_bin G .Mult) (ev 2) (ev 0)))))))
theorem ok_41 {fd : FuncData} (N : Nam K mg) (Z : Xt P w K mg base) (F : FunD K d_41.name d_41.qual d_41.params d_41.body d_41.scope (d_41.dvs K) (d_41.kws K) (adr K d_41.at_) fd) (fo : FOk (tb.lw K) P w K mg base k c) : FnOk P w K mg base (L2.CX P w) (k + 13) ((tb.lw K).fad 41) ((tb.lw K).fdt 41) ((tb.lw K).fps 41) (spM K (tb.lw K) ((tb.lw K).fps 41).length (fnD 3 (B_41 c))) :=
  fn_rule (N := ["self", "other", "times"]) (funG_of F rfl rfl rfl) sc_41 fo (fun _ _ _ _ _ _ => rfl) fun X Wx hX G => rb_41 N Z hX G
theorem sc_42 : FnScope ["self", "other"] ["self", "other"] (defScope s_42) := ⟨rfl, rfl, rfl, by decide +kernel, rfl, by decide +kernel, by decide +kernel⟩
theorem rb_42 {f : Addr} {X : Cx} {Wx : WX} (N : Nam K mg) (Z : Xt P w K mg base) (hX : ∃ (cdv : Value) (A : Around) (outer : List Env) (s : Shared) (H : Hp) (E : XK), X = cxOf (L2.CX P w) P w K mg base ["self", "other"] d_42.qual (defScope s_42) f cdv A outer s H E) (G : Gd (tb.lw K) X Wx k c) : RSs (tb.lw K) X Wx (defBody s_42) (B_42 c) := by
  obtain ⟨cdv, A, outer, s, H, E, rfl⟩ := hX
  exact (rss_cons (rs_if (RW.rt (rw_or (rt_not (rt_of (rtv_tru G) (re_ist (t := "int") G (by decide) (ev 1) rfl N.b_isinstance rfl N.b_int bb_int))) (rw_or1 (rt_of (rtv_tru G) (re_ist (t := "bool") G (by decide) (ev 1) rfl N.b_isinstance rfl N.b_bool bb_bool))))) (rss_one rs_no) rss_nil) (rss_one (rs_ret (re_mk (i := 0) (f := 26) G rfl rfl N.g_Ratio (ra_cons (re_call (i := 2) G rfl rfl N.g_raised (ra_cons (re_fld (g := 40) G (ev 0)) (ra_cons (ev 1) ra_nil))) (ra_cons (re_call (i := 2) G rfl rfl N.g_raised (ra_cons (re_fld (g := 41) G (ev 0)) (ra_cons (ev 1) ra_nil))) ra_nil))))))
theorem ok_42 {fd : FuncData} (N : Nam K mg) (Z : Xt P w K mg base) (F : FunD K d_42.name d_42.qual d_42.params d_42.body d_42.scope (d_42.dvs K) (d_42.kws K) (adr K d_42.at_) fd) (fo : FOk (tb.lw K) P w K mg base k c) : FnOk P w K mg base (L2.CX P w) (k + 13) ((tb.lw K).fad 42) ((tb.lw K).fdt 42) ((tb.lw K).fps 42) (spM K (tb.lw K) ((tb.lw K).fps 42).length (fnD 2 (B_42 c))) :=
  fn_rule (N := ["self", "other"]) (funG_of F rfl rfl rfl) sc_42 fo (fun _ _ _ _ _ _ => rfl) fun X Wx hX G => rb_42 N Z hX G
theorem sc_43 : FnScope ["self"] ["self"] (defScope s_43) := ⟨rfl, rfl, rfl, by decide +kernel, rfl, by decide +kernel, by decide +kernel⟩
theorem rb_43 {f : Addr} {X : Cx} {Wx : WX} (N : Nam K mg) (Z : Xt P w K mg base) (hX : ∃ (cdv : Value) (A : Around) (outer : List Env) (s : Shared) (H : Hp) (E : XK), X = cxOf (L2.CX P w) P w K mg base ["self"] d_43.qual (defScope s_43) f cdv A outer s H E) (G : Gd (tb.lw K) X Wx k c) : RSs (tb.lw K) X Wx (defBody s_43) (B_43 c) := by
  obtain ⟨cdv, A, outer, s, H, E, rfl⟩ := hX
  exact (rss_one (rs_ret (re_mk (i := 0) (f := 26) G rfl rfl N.g_Ratio (ra_cons (re_un (r1_neg G) (re_fld (g := 40) G (ev 0))) (ra_cons (re_fld (g := 41) G (ev 0)) ra_nil)))))
theorem ok_43 {fd : FuncData} (N : Nam K mg) (Z : Xt P w K mg base) (F : FunD K d_43.name d_43.qual d_43.params d_43.body d_43.scope (d_43.dvs K) (d_43.kws K) (adr K d_43.at_) fd) (fo : FOk (tb.lw K) P w K mg base k c) : FnOk P w K mg base (L2.CX P w) (k + 13) ((tb.lw K).fad 43) ((tb.lw K).fdt 43) ((tb.lw K).fps 43) (spM K (tb.lw K) ((tb.lw K).fps 43).length (fnD 1 (B_43 c))) :=
  fn_rule (N := ["self"]) (funG_of F rfl rfl rfl) sc_43 fo (fun _ _ _ _ _ _ => rfl) fun X Wx hX G => rb_43 N Z hX G
theorem sc_44 : FnScope ["self"] ["self"] (defScope s_44) := ⟨rfl, rfl, rfl, by decide +kernel, rfl, by decide +kernel, by decide +kernel⟩
theorem rb_44 {f : Addr} {X : Cx} {Wx : WX} (N : Nam K mg) (Z : Xt P w K mg base) (hX : ∃ (cdv : Value) (A : Around) (outer : List Env) (s : Shared) (H : Hp) (E : XK), X = cxOf (L2.CX P w) P w K mg base ["self"] d_44.qual (defScope s_44) f cdv A outer s H E) (G : Gd (tb.lw K) X Wx k c) : RSs (tb.lw K) X Wx (defBody s_44) (B_44 c) := by
  obtain ⟨cdv, A, outer, s, H, E, rfl⟩ := hX
  exact (rss_one (rs_ret (re_mk (i := 0) (f := 26) G rfl rfl N.g_Ratio (ra_cons (re_bfn (rc_abs) rfl N.b_abs bb_abs (ra_cons (re_fld (g := 40) G (ev 0)) ra_nil)) (ra_cons (re_fld (g := 41) G (ev 0)) ra_nil)))))
theorem ok_44 {fd : FuncData} (N : Nam K mg) (Z : Xt P w K mg base) (F : FunD K d_44.name d_44.qual d_44.params d_44.body d_44.scope (d_44.dvs K) (d_44.kws K) (adr K d_44.at_) fd) (fo : FOk (tb.lw K) P w K mg base k c) : FnOk P w K mg base (L2.CX P w) (k + 13) ((tb.lw K).fad 44) ((tb.lw K).fdt 44) ((tb.lw K).fps 44) (spM K (tb.lw K) ((tb.lw K).fps 44).length (fnD 1 (B_44 c))) :=
  fn_rule (N := ["self"]) (funG_of F rfl rfl rfl) sc_44 fo (fun _ _ _ _ _ _ => rfl) fun X Wx hX G => rb_44 N Z hX G
theorem sc_45 : FnScope ["self"] ["self"] (defScope s_45) := ⟨rfl, rfl, rfl, by decide +kernel, rfl, by decide +kernel, by decide +kernel⟩
theorem rb_45 {f : Addr} {X : Cx} {Wx : WX} (N : Nam K mg) (Z : Xt P w K mg base) (hX : ∃ (cdv : Value) (A : Around) (outer : List Env) (s : Shared) (H : Hp) (E : XK), X = cxOf (L2.CX P w) P w K mg base ["self"] d_45.qual (defScope s_45) f cdv A outer s H E) (G : Gd (tb.lw K) X Wx k c) : RSs (tb.lw K) X Wx (defBody s_45) (B_45 c) := by
  obtain ⟨cdv, A, outer, s, H, E, rfl⟩ := hX
  exact (rss_one (rs_ret (re_bty (rc_bool G) rfl N.b_bool bb_bool (ra_cons (re_fld (g := 40) G (ev 0)) ra_nil))))
theorem ok_45 {fd : FuncData} (N : Nam K mg) (Z : Xt P w K mg base) (F : FunD K d_45.name d_45.qual d_45.params d_45.body d_45.scope (d_45.dvs K) (d_45.kws K) (adr K d_45.at_) fd) (fo : FOk (tb.lw K) P w K mg base k c) : FnOk P w K mg base (L2.CX P w) (k + 13) ((tb.lw K).fad 45) ((tb.lw K).fdt 45) ((tb.lw K).fps 45) (spM K (tb.lw K) ((tb.lw K).fps 45).length (fnD 1 (B_45 c))) :=
  fn_rule (N := ["self"]) (funG_of F rfl rfl rfl) sc_45 fo (fun _ _ _ _ _ _ => rfl) fun X Wx hX G => rb_45 N Z hX G
theorem sc_46 : FnScope ["self"] ["self"] (defScope s_46) := ⟨rfl, rfl, rfl, by decide +kernel, rfl, by decide +kernel, by decide +kernel⟩
theorem rb_46 {f : Addr} {X : Cx} {Wx : WX} (N : Nam K mg) (Z : Xt P w K mg base) (hX : ∃ (cdv : Value) (A : Around) (outer : List Env) (s : Shared) (H : Hp) (E : XK), X = cxOf (L2.CX P w) P w K mg base ["self"] d_46.qual (defScope s_46) f cdv A outer s H E) (G : Gd (tb.lw K) X Wx k c) : RSs (tb.lw K) X Wx (defBody s_46) (B_46 c) := by
  obtain ⟨cdv, A, outer, s, H, E, rfl⟩ := hX
  exact (rss_cons (rs_if (rt_cmp (rtv_tru G) (r2_eq G) (re_fld (g := 41) G (ev 0)) re_int rfl) (rss_one (rs_ret (re_js1 (re_fmt (re_fld (g := 40) G (ev 0)))))) rss_nil) (rss_one (rs_ret (re_js3 (re_fmt (re_fld (g := 40) G (ev 0))) re_str (re_fmt (re_fld (g := 41) G (ev 0)))))))
theorem ok_46 {fd : FuncData} (N : Nam K mg) (Z : Xt P w K mg base) (F : FunD K d_46.name d_46.qual d_46.params d_46.body d_46.scope (d_46.dvs K) (d_46.kws K) (adr K d_46.at_) fd) (fo : FOk (tb.lw K) P w K mg base k c) : FnOk P w K mg base (L2.CX P w) (k + 13) ((tb.lw K).fad 46) ((tb.lw K).fdt 46) ((tb.lw K).fps 46) (spM K (tb.lw K) ((tb.lw K).fps 46).length (fnD 1 (B_46 c))) :=
  fn_rule (N := ["self"]) (funG_of F rfl rfl rfl) sc_46 fo (fun _ _ _ _ _ _ => rfl) fun X Wx hX G => rb_46 N Z hX G
theorem sc_47 : FnScope ["self", "number", "other"] ["self", "number"] (defScope s_47) := ⟨rfl, rfl, rfl, by decide +kernel, rfl, by decide +kernel, by decide +kernel⟩
theorem rb_47 {f : Addr} {X : Cx} {Wx : WX} (N : Nam K mg) (Z : Xt P w K mg base) (hX : ∃ (cdv : Value) (A : Around) (outer : List Env) (s : Shared) (H : Hp) (E : XK), X = cxOf (L2.CX P w) P w K mg base ["self", "number", "other"] d_47.qual (defScope s_47) f cdv A outer s H E) (G : Gd (tb.lw K) X Wx k c) : RSs (tb.lw K) X Wx (defBody s_47) (B_47 c) := by
  obtain ⟨cdv, A, outer, s, H, E, rfl⟩ := hX
  exact (rss_cons (sv 2 G (re_call (i := 3) G rfl rfl N.g_ratio_of (ra_cons (ev 1) ra_nil))) (rss_cons (rs_if (rt_cmp (rtv_tru G) (r2_eq G) (re_fld (g := 40) G (ev 2)) re_int rfl) (rss_one (rs_raise1 G (Z.x_BadNumber _) rfl (ev 1))) rss_nil) (rss_one (rs_ret (re_mk (i := 0) (f := 26) G rfl rfl N.g_Ratio (ra_cons (re_bin (r2_bin G .Mult) (re_fld (g := 40) G (ev 0)) (re_fld (g := 41) G (ev 2))) (ra_cons (re_bin (r2_bin G .Mult) (re_fld (g := 41) G (ev 0)) (re_fld (g := 40) G (ev 2))) ra_nil)))))))
theorem ok_47 {fd : FuncData} (N : Nam K mg) (Z : Xt P w K mg base) (F : FunD K d_47.name d_47.qual d_47.params d_47.body d_47.scope (d_47.dvs K) (d_47.kws K) (adr K d_47.at_) fd) (fo : FOk (tb.lw K) P w K mg base k c) : FnOk P w K mg base (L2.CX P w) (k + 13) ((tb.lw K).fad 47) ((tb.lw K).fdt 47) ((tb.lw K).fps 47) (spM K (tb.lw K) ((tb.lw K).fps 47).length (fnD 3 (B_47 c))) :=
  fn_rule (N := ["self", "number", "other"]) (funG_of F rfl rfl rfl) sc_47 fo (fun _ _ _ _ _ _ => rfl) fun X Wx hX G => rb_47 N Z hX G
theorem sc_48 : FnScope ["self"] ["self"] (defScope s_48) := ⟨rfl, rfl, rfl, by decide +kernel, rfl, by decide +kernel, by decide +kernel⟩
theorem rb_48 {f : Addr} {X : Cx} {Wx : WX} (N : Nam K mg) (Z : Xt P w K mg base) (hX : ∃ (cdv : Value) (A : Around) (outer : List Env) (s : Shared) (H : Hp) (E : XK), X = cxOf (L2.CX P w) P w K mg base ["self"] d_48.qual (defScope s_48) f cdv A outer s H E) (G : Gd (tb.lw K) X Wx k c) : RSs (tb.lw K) X Wx (defBody s_48) (B_48 c) := by
  obtain ⟨cdv, A, outer, s, H, E, rfl⟩ := hX
  exact (rss_one (rs_ret (re_bin (r2_bin G .FloorDiv) (re_fld (g := 40) G (ev 0)) (re_fld (g := 41) G (ev 0)))))
theorem ok_48 {fd : FuncData} (N : Nam K mg) (Z : Xt P w K mg base) (F : FunD K d_48.name d_48.qual d_48.params d_48.body d_48.scope (d_48.dvs K) (d_48.kws K) (adr K d_48.at_) fd) (fo : FOk (tb.lw K) P w K mg base k c) : FnOk P w K mg base (L2.CX P w) (k + 13) ((tb.lw K).fad 48) ((tb.lw K).fdt 48) ((tb.lw K).fps 48) (spM K (tb.lw K) ((tb.lw K).fps 48).length (fnD 1 (B_48 c))) :=
  fn_rule (N := ["self"]) (funG_of F rfl rfl rfl) sc_48 fo (fun _ _ _ _ _ _ => rfl) fun X Wx hX G => rb_48 N Z hX G
theorem sc_49 : FnScope ["self"] ["self"] (defScope s_49) := ⟨rfl, rfl, rfl, by decide +kernel, rfl, by decide +kernel, by decide +kernel⟩
theorem rb_49 {f : Addr} {X : Cx} {Wx : WX} (N : Nam K mg) (Z : Xt P w K mg base) (hX : ∃ (cdv : Value) (A : Around) (outer : List Env) (s : Shared) (H : Hp) (E : XK), X = cxOf (L2.CX P w) P w K mg base ["self"] d_49.qual (defScope s_49) f cdv A outer s H E) (G : Gd (tb.lw K) X Wx k c) : RSs (tb.lw K) X Wx (defBody s_49) (B_49 c) := by
  obtain ⟨cdv, A, outer, s, H, E, rfl⟩ := hX
  exact (rss_one (rs_ret (re_un (r1_neg G) (re_bin (r2_bin G .FloorDiv) (re_un (r1_neg G) (re_fld (g := 40) G (ev 0))) (re_fld (g := 41) G (ev 0))))))
theorem ok_49 {fd : FuncData} (N : Nam K mg) (Z : Xt P w K mg base) (F : FunD K d_49.name d_49.qual d_49.params d_49.body d_49.scope (d_49.dvs K) (d_49.kws K) (adr K d_49.at_) fd) (fo : FOk (tb.lw K) P w K mg base k c) : FnOk P w K mg base (L2.CX P w) (k + 13) ((tb.lw K).fad 49) ((tb.lw K).fdt 49) ((tb.lw K).fps 49) (spM K (tb.lw K) ((tb.lw K).fps 49).length (fnD 1 (B_49 c))) :=
  fn_rule (N := ["self"]) (funG_of F rfl rfl rfl) sc_49 fo (fun _ _ _ _ _ _ => rfl) fun X Wx hX G => rb_49 N Z hX G
theorem sc_50 : FnScope ["self"] ["self"] (defScope s_50) := ⟨rfl, rfl, rfl, by decide +kernel, rfl, by decide +kernel, by decide +kernel⟩
theorem rb_50 {f : Addr} {X : Cx} {Wx : WX} (N : Nam K mg) (Z : Xt P w K mg base) (hX : ∃ (cdv : Value) (A : Around) (outer : List Env) (s : Shared) (H : Hp) (E : XK), X = cxOf (L2.CX P w) P w K mg base ["self"] d_50.qual (defScope s_50) f cdv A outer s H E) (G : Gd (tb.lw K) X Wx k c) : RSs (tb.lw K) X Wx (defBody s_50) (B_50 c) := by
  obtain ⟨cdv, A, outer, s, H, E, rfl⟩ := hX
  exact (rss_one (rs_ret (re_cmp (r2_eq G) (re_fld (g := 41) G (ev 0)) re_int rfl)))
theorem ok_50 {fd : FuncData} (N : Nam K mg) (Z : Xt P w K mg base) (F : FunD K d_50.name d_50.qual d_50.params d_50.body d_50.scope (d_50.dvs K) (d_50.kws K) (adr K d_50.at_) fd) (fo : FOk (tb.lw K) P w K mg base k c) : FnOk P w K mg base (L2.CX P w) (k + 13) ((tb.lw K).fad 50) ((tb.lw K).fdt 50) ((tb.lw K).fps 50) (spM K (tb.lw K) ((tb.lw K).fps 50).length (fnD 1 (B_50 c))) :=
  fn_rule (N := ["self"]) (funG_of F rfl rfl rfl) sc_50 fo (fun _ _ _ _ _ _ => rfl) fun X Wx hX G => rb_50 N Z hX G
theorem sc_51 : FnScope ["self"] ["self"] (defScope s_51) := ⟨rfl, rfl, rfl, by decide +kernel, rfl, by decide +kernel, by decide +kernel⟩
theorem rb_51 {f : Addr} {X : Cx} {Wx : WX} (N : Nam K mg) (Z : Xt P w K mg base) (hX : ∃ (cdv : Value) (A : Around) (outer : List Env) (s : Shared) (H : Hp) (E : XK), X = cxOf (L2.CX P w) P w K mg base ["self"] d_51.qual (defScope s_51) f cdv A outer s H E) (G : Gd (tb.lw K) X Wx k c) : RSs (tb.lw K) X Wx (defBody s_51) (B_51 c) := by
  obtain ⟨cdv, A, outer, s, H, E, rfl⟩ := hX
  exact (rss_cons (rs_if (rt_cmp (rtv_tru G) (r2_ord G .Gt) (re_fld (g := 40) G (ev 0)) re_int rfl) (rss_one (rs_ret re_int)) rss_nil) (rss_cons (rs_if (rt_cmp (rtv_tru G) (r2_ord G .Lt) (re_fld (g := 40) G (ev 0)) re_int rfl) (rss_one (rs_ret (re_un (r1_neg G) re_int))) rss_nil) (rss_one (rs_ret re_int))))
theorem ok_51 {fd : FuncData} (N : Nam K mg) (Z : Xt P w K mg base) (F : FunD K d_51.name d_51.qual d_51.params d_51.body d_51.scope (d_51.dvs K) (d_51.kws K) (adr K d_51.at_) fd) (fo : FOk (tb.lw K) P w K mg base k c) : FnOk P w K mg base (L2.CX P w) (k + 13) ((tb.lw K).fad 51) ((tb.lw K).fdt 51) ((tb.lw K).fps 51) (spM K (tb.lw K) ((tb.lw K).fps 51).length (fnD 1 (B_51 c))) :=
  fn_rule (N := ["self"]) (funG_of F rfl rfl rfl) sc_51 fo (fun _ _ _ _ _ _ => rfl) fun X Wx hX G => rb_51 N Z hX G
end
end G08
namespace G08
open PySem PySem.Spec PyProof.Rows L2 Gm
theorem gcd_loop (c : Fn) : ∀ (b a : Nat) (st : Store), ∃ m, whileN (tOf (truD T c) (xVar 1)) (sPar 0 1 (aCons (xVar 1) (aCons (xBin (binD T c .Mod) (xVar 0) (xVar 1)) aNil))) m [some (.int a), some (.int b)] st = .nx [some (.int (Nat.gcd a b)), some (.int 0)] st := by
  intro b
  induction b using Nat.strongRecOn with
  | ind b ih =>
    intro a st
    by_cases hb : b = 0
    · subst hb
      refine ⟨1, ?_⟩
      unfold whileN
      simp
    · obtain ⟨m, hm⟩ := ih (a % b) (Nat.mod_lt _ (Nat.pos_of_ne_zero hb)) b st
      refine ⟨m + 1, ?_⟩
      have hz : (b : Int) ≠ 0 := by omega
      rw [gcd_step a b hb] at hm
      unfold whileN
      simp [hb, hz, ib_mod, fmod_nat]
      simpa using hm
theorem s_gcd (n : Nat) (i j : Int) (st : Store) : run (n + 1) 1 [.int i, .int j] st = .ok (.int (Int.gcd i j)) st := by
  rw [run_1]
  refine fnD_rt0 ?_ rfl
  obtain ⟨m, hm⟩ := gcd_loop (run n) j.natAbs i.natAbs st
  have hw := sWhile_eq m hm (by simp)
  simp only [B_1, ap_sSeq, ap_sPar, ap_aCons, ap_xBi, ap_xVar, ap_aNil, startE, ap_sRet]
  simp [abs_if]
  rw [hw]
  simp [Int.gcd]
theorem s_isnum_int (n : Nat) (i : Int) (st : Store) : run (n + 1) 0 [.int i] st = .ok (.bl true) st := by
  rw [run_0]
  refine fnD_rt0 ?_ rfl
  simp [B_0, startE]
theorem isC_Ratio : T.isC 0 = true := rfl
theorem sub_Ratio : T.sub 0 0 = true := rfl
theorem s_isnum_rat (n : Nat) (ds : List D) (st : Store) : run (n + 1) 0 [.obj 0 ds] st = .ok (.bl true) st := by
  rw [run_0]
  refine fnD_rt0 ?_ rfl
  simp [B_0, startE, isC_Ratio, sub_Ratio]
def rD (q : Rat) : D := .obj 0 [.int q.num, .int q.den]
@[simp] theorem fk_Ratio_top (d : D) (ρ : Ev) (st : Store) : fldK T 40 d ρ (.ref st.length) (st ++ [.ins 0 []]) = .nx ρ (st ++ [.ins 0 [(40, d)]]) := fk_new d ρ st rfl
@[simp] theorem fk_Ratio_bottom (d e : D) (ρ : Ev) (st : Store) : fldK T 41 d ρ (.ref st.length) (st ++ [.ins 0 [(40, e)]]) = .nx ρ (st ++ [.ins 0 [(40, e), (41, d)]]) := fk_new d ρ st rfl
@[simp] theorem fd_Ratio_top (c : Fn) (a b : D) (st : Store) : fldD T c 40 (.obj 0 [a, b]) st = .ok a st := fld_obj st rfl rfl
@[simp] theorem fd_Ratio_bottom (c : Fn) (a b : D) (st : Store) : fldD T c 41 (.obj 0 [a, b]) st = .ok b st := fld_obj st rfl rfl
theorem s_init (n : Nat) (i j : Int) (st : Store) (hj : j ≠ 0) (hs : Nb 8000 j) : run (n + 2) 26 [.ref st.length, .int i, .int j] (st ++ [.ins 0 []]) = .ok .non (st ++ [.ins 0 [(40, .int (Rat.divInt i j).num), (41, .int (Rat.divInt i j).den)]]) := by
  rw [run_26]
  have hc : com i j ≠ 0 ∧ (com i j).natAbs.log2 < 9000 := ⟨com_ne hj, log2_lt (Nat.lt_of_le_of_lt (com_le hj) (Nat.lt_of_lt_of_le hs (Nat.pow_le_pow_right (by decide) (by decide)))) (by decide)⟩
  refine fnD_init (ρ := [some (.ref st.length), some (.int i), some (.int j), some (.int j), some (.int (com i j))]) ?_ (by simp)
  rw [← cut_num hj, ← cut_den hj]
  have hj2 : (j == 0) = false := by simpa using hj
  by_cases hn : j < 0
  · have e : -(Int.gcd i j : Int) = com i j := by unfold com; rw [if_pos hn]
    simp [B_26, startE, iSeq, forI, hj, hj2, hn, s_gcd, e, ib_fdiv, hc]
  · have e : (Int.gcd i j : Int) = com i j := by unfold com; rw [if_neg hn]
    simp [B_26, startE, iSeq, forI, hj, hj2, hn, s_gcd, e, ib_fdiv, hc]
theorem Rat.ext_iff' (p q : Rat) : (p.num = q.num ∧ (p.den : Int) = (q.den : Int)) ↔ p = q := by
  constructor
  · intro ⟨h1, h2⟩
    exact Rat.ext h1 (Int.ofNat.inj h2)
  · intro h
    subst h
    exact ⟨rfl, rfl⟩
theorem s_mk (n : Nat) (i j : Int) (st : Store) (hj : j ≠ 0) (hs : Nb 8000 j) : mkD T (run (n + 2)) 0 [.int i, .int j] st = .ok (rD (Rat.divInt i j)) st :=
  mkD_new (fs := [(40, .int (Rat.divInt i j).num), (41, .int (Rat.divInt i j).den)]) rfl (s_init n i j st hj hs) rfl (by simp)
theorem s_mk1 (n : Nat) (i : Int) (st : Store) : mkD T (run (n + 2)) 0 [.int i] st = .ok (rD (i : Rat)) st := by
  rw [← rat_int]
  exact mkD_new (fs := [(40, .int (Rat.divInt i 1).num), (41, .int (Rat.divInt i 1).den)]) rfl (s_init n i 1 st (by decide) (by unfold Nb; exact Nat.one_lt_two_pow (by decide))) rfl (by simp)
theorem noRef_rD (n : Nat) (q : Rat) : noRef n (rD q) = true := by simp [rD]
theorem s_isnum (n : Nat) (q : Rat) (st : Store) : run (n + 1) 0 [rD q] st = .ok (.bl true) st := s_isnum_rat n _ st
theorem fd_top (c : Fn) (q : Rat) (st : Store) : fldD T c 40 (rD q) st = .ok (.int q.num) st := fd_Ratio_top c _ _ st
theorem fd_bottom (c : Fn) (q : Rat) (st : Store) : fldD T c 41 (rD q) st = .ok (.int q.den) st := fd_Ratio_bottom c _ _ st
theorem iso_rD (q : Rat) (st : Store) : isoD T 0 (rD q) st = .ok (.bl true) st := by simp [rD, isC_Ratio, sub_Ratio]
theorem s_ratio_of (n : Nat) (q : Rat) (st : Store) : run (n + 1) 3 [rD q] st = .ok (rD q) st := by
  rw [run_3]
  refine fnD_rt0 ?_ (noRef_rD _ _)
  simp [B_3, startE, iso_rD]
theorem s_ratio_of_int (n : Nat) (i : Int) (st : Store) : run (n + 3) 3 [.int i] st = .ok (rD (i : Rat)) st := by
  rw [run_3]
  refine fnD_rt0 ?_ (noRef_rD _ _)
  simp [B_3, startE, s_isnum_int, s_mk1]
section
variable (n : Nat) (p q : Rat) (j : Int) (st : Store)
theorem b_add (hp : Sz 4000 p) (hq : Sz 4000 q) : binD T (run (n + 3)) .Add (rD p) (rD q) st = .ok (rD (p + q)) st := by
  refine (bin_own st rfl (by decide)).trans ?_
  show run (n + 3) 32 [rD p, rD q] st = _
  rw [run_32, ← rat_add]
  refine fnD_rt0 ?_ (noRef_rD _ _)
  simp [-Rat.divInt_ofNat, B_32, startE, s_isnum, s_ratio_of, fd_top, fd_bottom, ib_mul, hp.num.ok hq.den (by decide), hp.den.ok hq.den (by decide), hq.num.ok hp.den (by decide), s_mk n _ _ _ (Int.mul_ne_zero (Rat.den_ne' p) (Rat.den_ne' q)) ((hp.den.mul hq.den).mono (by decide))]
theorem b_sub (hp : Sz 4000 p) (hq : Sz 4000 q) : binD T (run (n + 3)) .Sub (rD p) (rD q) st = .ok (rD (p - q)) st := by
  refine (bin_own st rfl (by decide)).trans ?_
  show run (n + 3) 34 [rD p, rD q] st = _
  rw [run_34, ← rat_sub]
  refine fnD_rt0 ?_ (noRef_rD _ _)
  simp [-Rat.divInt_ofNat, B_34, startE, s_isnum, s_ratio_of, fd_top, fd_bottom, ib_mul, hp.num.ok hq.den (by decide), hp.den.ok hq.den (by decide), hq.num.ok hp.den (by decide), s_mk n _ _ _ (Int.mul_ne_zero (Rat.den_ne' p) (Rat.den_ne' q)) ((hp.den.mul hq.den).mono (by decide))]
theorem b_mul (hp : Sz 4000 p) (hq : Sz 4000 q) : binD T (run (n + 3)) .Mult (rD p) (rD q) st = .ok (rD (p * q)) st := by
  refine (bin_own st rfl (by decide)).trans ?_
  show run (n + 3) 36 [rD p, rD q] st = _
  rw [run_36, ← rat_mul]
  refine fnD_rt0 ?_ (noRef_rD _ _)
  simp [-Rat.divInt_ofNat, B_36, startE, s_isnum, s_ratio_of, fd_top, fd_bottom, ib_mul, hp.num.ok hq.num (by decide), hp.den.ok hq.den (by decide), s_mk n _ _ _ (Int.mul_ne_zero (Rat.den_ne' p) (Rat.den_ne' q)) ((hp.den.mul hq.den).mono (by decide))]
theorem b_sub_i (hp : Sz 4000 p) (hj : Nb 4000 j) : binD T (run (n + 4)) .Sub (rD p) (.int j) st = .ok (rD (p - (j : Rat))) st := by
  have hq := Sz.int hj (by decide)
  refine (bin_oi st rfl (by decide)).trans ?_
  show run (n + 4) 34 [rD p, .int j] st = _
  rw [run_34, ← rat_sub]
  refine fnD_rt0 ?_ (noRef_rD _ _)
  simp [-Rat.divInt_ofNat, -Rat.num_intCast, -Rat.den_intCast, B_34, startE, s_isnum_int, s_ratio_of_int, fd_top, fd_bottom, ib_mul, hp.num.ok hq.den (by decide), hp.den.ok hq.den (by decide), hq.num.ok hp.den (by decide), s_mk (n + 1) _ _ _ (Int.mul_ne_zero (Rat.den_ne' p) (Rat.den_ne' j)) ((hp.den.mul hq.den).mono (by decide))]
theorem b_add_i (hp : Sz 4000 p) (hj : Nb 4000 j) : binD T (run (n + 4)) .Add (rD p) (.int j) st = .ok (rD (p + (j : Rat))) st := by
  have hq := Sz.int hj (by decide)
  refine (bin_oi st rfl (by decide)).trans ?_
  show run (n + 4) 32 [rD p, .int j] st = _
  rw [run_32, ← rat_add]
  refine fnD_rt0 ?_ (noRef_rD _ _)
  simp [-Rat.divInt_ofNat, -Rat.num_intCast, -Rat.den_intCast, B_32, startE, s_isnum_int, s_ratio_of_int, fd_top, fd_bottom, ib_mul, hp.num.ok hq.den (by decide), hp.den.ok hq.den (by decide), hq.num.ok hp.den (by decide), s_mk (n + 1) _ _ _ (Int.mul_ne_zero (Rat.den_ne' p) (Rat.den_ne' j)) ((hp.den.mul hq.den).mono (by decide))]
theorem b_mul_i (hp : Sz 4000 p) (hj : Nb 4000 j) : binD T (run (n + 4)) .Mult (rD p) (.int j) st = .ok (rD (p * (j : Rat))) st := by
  have hq := Sz.int hj (by decide)
  refine (bin_oi st rfl (by decide)).trans ?_
  show run (n + 4) 36 [rD p, .int j] st = _
  rw [run_36, ← rat_mul]
  refine fnD_rt0 ?_ (noRef_rD _ _)
  simp [-Rat.divInt_ofNat, -Rat.num_intCast, -Rat.den_intCast, B_36, startE, s_isnum_int, s_ratio_of_int, fd_top, fd_bottom, ib_mul, hp.num.ok hq.num (by decide), hp.den.ok hq.den (by decide), s_mk (n + 1) _ _ _ (Int.mul_ne_zero (Rat.den_ne' p) (Rat.den_ne' j)) ((hp.den.mul hq.den).mono (by decide))]
theorem b_rmul (hp : Sz 4000 p) (hj : Nb 4000 j) : binD T (run (n + 3)) .Mult (.int j) (rD p) st = .ok (rD ((j : Rat) * p)) st := by
  refine (bin_io st (g := 36) rfl rfl rfl).trans ?_
  show run (n + 3) 37 [rD p, .int j] st = _
  have e : (j : Rat) * p = Rat.divInt (j * p.num) p.den := by
    rw [← rat_mul, Rat.num_intCast, Rat.den_intCast]
    simp
  rw [run_37, e]
  refine fnD_rt0 ?_ (noRef_rD _ _)
  simp [-Rat.divInt_ofNat, B_37, startE, s_isnum_int, fd_top, fd_bottom, ib_mul, hj.ok hp.num (by decide), s_mk n _ _ _ (Rat.den_ne' p) (hp.den.mono (by decide))]
theorem b_neg (hp : Sz 4000 p) : negD T (run (n + 3)) (rD p) st = .ok (rD (-p)) st := by
  refine (neg_own st rfl).trans ?_
  show run (n + 3) 43 [rD p] st = _
  rw [run_43, ← rat_neg]
  refine fnD_rt0 ?_ (noRef_rD _ _)
  simp [-Rat.divInt_ofNat, B_43, startE, fd_top, fd_bottom, s_mk n _ _ _ (Rat.den_ne' p) (hp.den.mono (by decide))]
theorem s_req : run (n + 2) 27 [rD p, rD q] st = .ok (.bl (decide (p = q))) st := by
  rw [run_27]
  refine fnD_rt0 ?_ (by simp)
  have e := Rat.ext_iff' p q
  by_cases h1 : p.num = q.num
  · have h2 : (p.num == q.num) = true := by simpa using h1
    simp [B_27, startE, s_isnum, s_ratio_of, fd_top, fd_bottom, h1]
    rw [Bool.eq_iff_iff]
    simp [← e, h1]
  · have h2 : (p.num == q.num) = false := by simpa using h1
    have h3 : ¬ p = q := fun h => h1 (congrArg _ h)
    simp [B_27, startE, s_isnum, s_ratio_of, fd_top, fd_bottom, h2, h3]
theorem s_req_i : run (n + 4) 27 [rD p, .int j] st = .ok (.bl (decide (p = (j : Rat)))) st := by
  rw [run_27]
  refine fnD_rt0 ?_ (by simp)
  have e := Rat.ext_iff' p j
  by_cases h1 : p.num = (j : Rat).num
  · simp [-Rat.divInt_ofNat, -Rat.num_intCast, -Rat.den_intCast, B_27, startE, s_isnum_int, s_ratio_of_int, fd_top, fd_bottom, h1]
    rw [Bool.eq_iff_iff]
    simp [-Rat.num_intCast, -Rat.den_intCast, ← e, h1]
  · have h2 : (p.num == (j : Rat).num) = false := by simpa [-Rat.num_intCast] using h1
    have h3 : ¬ p = j := fun h => h1 (congrArg _ h)
    simp [-Rat.divInt_ofNat, -Rat.num_intCast, -Rat.den_intCast, B_27, startE, s_isnum_int, s_ratio_of_int, fd_top, fd_bottom, h2, h3]
theorem b_eq (neg : Bool) : eqB T (run (n + 2)) neg (rD p) (rD q) st = .ok (.bl (decide (p = q) != neg)) st := eqB_own st rfl rfl (s_req n p q st)
theorem b_eq_i (neg : Bool) : eqB T (run (n + 4)) neg (rD p) (.int j) st = .ok (.bl (decide (p = (j : Rat)) != neg)) st := eqB_own st rfl rfl (s_req_i n p j st)
theorem b_bool_int (c : Fn) (i : Int) : bBool T c [.int i] st = .ok (.bl (i != 0)) st := rfl
theorem b_bool : run (n + 1) 45 [rD p] st = .ok (.bl (decide (p ≠ 0))) st := by
  rw [run_45]
  refine fnD_rt0 ?_ (by simp)
  simp [B_45, startE, fd_top, b_bool_int]
  rw [Bool.eq_iff_iff]
  simp [Rat.num_eq_zero]
end
end G08
namespace G08
open PySem PySem.Spec PyProof.Rows L2 Gm
theorem fmod_nn (a : Int) {b : Int} (h : 0 < b) : 0 ≤ a.fmod b := by
  rw [Int.fmod_eq_emod_of_nonneg _ (Int.le_of_lt h)]
  exact Int.emod_nonneg _ (by omega)
theorem fmod_lt (a : Int) {b : Int} (h : 0 < b) : a.fmod b < b := by
  rw [Int.fmod_eq_emod_of_nonneg _ (Int.le_of_lt h)]
  exact Int.emod_lt_of_pos _ h
theorem fdiv_nn {a b : Int} (ha : 0 ≤ a) (h : 0 < b) : 0 ≤ a.fdiv b := by
  rw [Int.fdiv_eq_ediv_of_nonneg _ (Int.le_of_lt h)]
  exact Int.ediv_nonneg ha (Int.le_of_lt h)
theorem Nb.of {i : Int} {b : Nat} (h0 : 0 ≤ i) (h : i < ((2 ^ b : Nat) : Int)) : Nb b i := by
  unfold Nb
  omega
theorem bin_ll {c : Fn} {m p : Nat} {st : Store} {a b : List D} (h1 : st[m]? = some (.lst a)) (h2 : st[p]? = some (.lst b)) (hl : a.length + b.length < 100) : binD T c .Add (.ref m) (.ref p) st = .ok (.ref st.length) (st ++ [.lst (a ++ b)]) := by
  unfold binD
  simp only [h1, h2]
  exact if_pos ⟨trivial, Nat.le_trans (Nat.le_of_lt hl) (by decide)⟩
theorem Sz.small {i : Int} (h : i.natAbs < 2) (s : Nat) (hs : 0 < s) : Sz s (i : Rat) := Sz.int (Nat.lt_of_lt_of_le h (Nat.one_lt_two_pow (Nat.ne_of_gt hs))) hs
theorem Sz.zero (s : Nat) (hs : 0 < s) : Sz s 0 := Sz.small (i := 0) (by decide) s hs
theorem hm_over (c : Fn) (r : Fa) (ρ : Ev) (q : Rat) (st : Store) : methK T c 44 r ρ (rD q) st = (r ρ st).bind (kMe T c 47 (rD q)) := methK_obj ρ st T c r rfl
theorem Sz.one (s : Nat) (hs : 0 < s) : Sz s 1 := Sz.small (i := 1) (by decide) s hs
end G08
namespace G08
open PySem PySem.Spec PyProof.Rows L2 Gm
def kCells : Key := .inr "cells"
def kAt : Key := .inr "at"
def kRest : Key := .inr "rest"
def pc (k l : Int) : List (Key × D) := [(kCells, .ref 6), (kAt, .int k), (kRest, .int l)]
theorem nd_pc (k l : Int) : ndK (pc k l) := by
  show ([kCells, kAt, kRest] : List Key).Nodup
  decide
theorem g_rest {st : Store} {k l : Int} (h : st[1]? = some (.dic (pc k l))) : subD (.ref 1) (.str "rest") st = .ok (.int l) st := by
  unfold subD
  simp only [h]
  rfl
theorem g_at {st : Store} {k l : Int} (h : st[1]? = some (.dic (pc k l))) : subD (.ref 1) (.str "at") st = .ok (.int k) st := by
  unfold subD
  simp only [h]
  rfl
theorem g_cells {st : Store} {k l : Int} (h : st[1]? = some (.dic (pc k l))) : subD (.ref 1) (.str "cells") st = .ok (.ref 6) st := by
  unfold subD
  simp only [h]
  rfl
theorem p_rest {st : Store} {k l : Int} (l' : Int) (h : st[1]? = some (.dic (pc k l))) : putD (.ref 1) (.str "rest") (.int l') st = .ok (st.set 1 (.dic (pc k l'))) st := by
  unfold putD
  simp only [h]
  exact if_pos ⟨show 3 < sizeLine by decide, nd_pc k l⟩
theorem p_at {st : Store} {k l : Int} (k' : Int) (h : st[1]? = some (.dic (pc k l))) : putD (.ref 1) (.str "at") (.int k') st = .ok (st.set 1 (.dic (pc k' l))) st := by
  unfold putD
  simp only [h]
  exact if_pos ⟨show 3 < sizeLine by decide, nd_pc k l⟩

noncomputable def kPu3 (ρ : Ev) (d o i : D) (st : Store) : SR := match putD o i d st with
  | .ok st' _ => .nx ρ st'
  | _ => .stuck
noncomputable def kPu2 (fi : Fe) (ρ : Ev) (d o : D) (st : Store) : SR := (fi ρ st).toS ρ (kPu3 ρ d o)
noncomputable def kPu1 (fo fi : Fe) (ρ : Ev) (d : D) (st : Store) : SR := (fo ρ st).toS ρ (kPu2 fi ρ d)
theorem ap_sPut (fo fi fv : Fe) (ρ : Ev) (st : Store) : sPut fo fi fv ρ st = (fv ρ st).toS ρ (kPu1 fo fi ρ) := rfl
theorem kPu1_ (fo fi : Fe) (ρ : Ev) (d : D) (st : Store) : kPu1 fo fi ρ d st = (fo ρ st).toS ρ (kPu2 fi ρ d) := rfl
theorem kPu2_ (fi : Fe) (ρ : Ev) (d o : D) (st : Store) : kPu2 fi ρ d o st = (fi ρ st).toS ρ (kPu3 ρ d o) := rfl
theorem kPu_rest {ρ : Ev} {st : Store} {k l : Int} (l' : Int) (h : st[1]? = some (.dic (pc k l))) : kPu3 ρ (.int l') (.ref 1) (.str "rest") st = .nx ρ (st.set 1 (.dic (pc k l'))) := by
  unfold kPu3
  rw [p_rest l' h]
structure PenAt (ns : List Int) (k : Nat) (l : Int) (st : Store) : Prop where
  dic : st[1]? = some (.dic (pc k l))
  lst : st[6]? = some (.lst (ns.map D.int))
  rest : 0 ≤ l
  len : ns.length ≤ 64
  len0 : 0 < ns.length
theorem kGp_rest {ρ : Ev} {st : Store} {k l : Int} (l' : Int) (h : st[1]? = some (.dic (pc k l))) : kGp2 (.int l') (.ref 1) ρ (.str "rest") st = .ok ρ (st.set 1 (.dic (pc k l'))) := kGp2_ok ρ _ (p_rest l' h)
theorem kGp_at {ρ : Ev} {st : Store} {k l : Int} (k' : Int) (h : st[1]? = some (.dic (pc k l))) : kGp2 (.int k') (.ref 1) ρ (.str "at") st = .ok ρ (st.set 1 (.dic (pc k' l))) := kGp2_ok ρ _ (p_at k' h)
theorem PenAt.ext {ns : List Int} {k : Nat} {l : Int} {st : Store} (h : PenAt ns k l st) (e : Store) : PenAt ns k l (st ++ e) := ⟨get_ext h.dic, get_ext h.lst, h.rest, h.len, h.len0⟩
theorem PenAt.set {ns : List Int} {k k' : Nat} {l l' : Int} {st : Store} (h : PenAt ns k l st) (hl : 0 ≤ l') : PenAt ns k' l' (st.set 1 (.dic (pc k' l'))) := by
  refine ⟨?_, ?_, hl, h.len, h.len0⟩
  · have := (List.getElem?_eq_some_iff.mp h.dic).1
    rw [List.getElem?_set_self this]
  · rw [List.getElem?_set_ne (by decide)]
    exact h.lst
theorem PenAt.long {ns : List Int} {k : Nat} {l : Int} {st : Store} (h : PenAt ns k l st) : 6 < st.length := (List.getElem?_eq_some_iff.mp h.lst).1
theorem tidy_pen {ns : List Int} {k : Nat} {l : Int} {st : Store} (h : PenAt ns k l st) (k' l' : Int) (e : Store) {d : D} (hd : noRef st.length d = true) : tidy st (.ok d (st.set 1 (.dic (pc k' l')) ++ e)) = .ok d (st.set 1 (.dic (pc k' l'))) := by
  refine tidy_set ?_ hd
  show noRefs st.length [.ref 6, .int k', .int l'] = true
  have := h.long
  simp [this]
theorem len_lst {ns : List Int} {st : Store} {m : Nat} (h : st[m]? = some (.lst (ns.map D.int))) : bLen [.ref m] st = .ok (.int ns.length) st := by
  unfold bLen seqOf
  simp only [h]
  simp
theorem nth_lst {ns : List Int} {st : Store} {m : Nat} (h : st[m]? = some (.lst (ns.map D.int))) (j : Nat) (hj : j < ns.length) : subD (.ref m) (.int j) st = .ok (.int ns[j]) st := by
  rw [subR h, atI_nat (v := .int ns[j]) (by simp [hj])]
  rfl
end G08
namespace G08
open PySem PySem.Spec PyProof.Rows L2 Gm
theorem ib_pow {i j : Int} {st : Store} (h : 0 ≤ j ∧ j ≤ 1000000 ∧ i.natAbs < 2 ^ 64) : intBin .Pow i j st = .ok (.int (i ^ j.toNat)) st := if_pos h
theorem pow10_18 (st : Store) : intBin .Pow 10 18 st = .ok (.int 1000000000000000000) st := rfl
theorem pow10_47 (st : Store) : intBin .Pow 10 47 st = .ok (.int 100000000000000000000000000000000000000000000000) st := rfl
def mX (c k : Int) : Int := (c * 982451653 + 32452843 * k * k + 961748941).fmod 2305843009213693907
def rX (m k : Int) : Int := (m ^ 11 + 15485863 * k * m * m).fmod 100000000000000000000000000000000000000000000009
theorem mX_nb (c k : Int) : Nb 61 (mX c k) := Nb.of (fmod_nn _ (by decide)) (by have := fmod_lt (c * 982451653 + 32452843 * k * k + 961748941) (b := 2305843009213693907) (by decide); unfold mX; omega)
theorem fm_nat {k n : Nat} : ((k : Int).fmod (n : Int)) = ((k % n : Nat) : Int) := by
  rw [Int.fmod_eq_emod_of_nonneg _ (by omega)]; rfl
noncomputable def drB (c : Fn) : Fs := (sSeq (sAsg (xTup (aCons (xBin (binD T c .Mod) (xBi bInt (aCons (xBin subD (xVar 0) (xK (.str "rest"))) aNil)) (xVar 1)) (aCons (xBin (binD T c .FloorDiv) (xBin subD (xVar 0) (xK (.str "rest"))) (xVar 1)) aNil))) (gTp (gsCons (gNm 6) (gsCons (gPut (xVar 0) (xK (.str "rest"))) gsNil)))) (sRet (xVar 6)))
noncomputable def dqB (c : Fn) : Fs := (sSeq (sPar 2 3 (aCons (xBin subD (xVar 0) (xK (.str "at"))) (aCons (xBi bLen (aCons (xBin subD (xVar 0) (xK (.str "cells"))) aNil)) aNil))) (sSeq (sAsg (xTup (aCons (xBin subD (xBin subD (xVar 0) (xK (.str "cells"))) (xBin (binD T c .Mod) (xBi bInt (aCons (xVar 2) aNil)) (xVar 3))) (aCons (xBin (binD T c .Add) (xVar 2) (xK (.int 1))) aNil))) (gTp (gsCons (gNm 4) (gsCons (gPut (xVar 0) (xK (.str "at"))) gsNil)))) (sSeq (sAsg (xBin (binD T c .Add) (xBin (binD T c .Add) (xBin (binD T c .Mult) (xBi bInt (aCons (xVar 4) aNil)) (xK (.int 982451653))) (xBin (binD T c .Mult) (xBin (binD T c .Mult) (xK (.int 32452843)) (xVar 2)) (xVar 2))) (xK (.int 961748941))) (gNm 5)) (sSeq (sAsg (xBin (binD T c .Mod) (xBi bInt (aCons (xVar 5) aNil)) (xK (.int 2305843009213693907))) (gNm 5)) (sSeq (sPut (xVar 0) (xK (.str "rest")) (xBin (binD T c .Mod) (xBi bInt (aCons (xBin (binD T c .Add) (xBin (binD T c .Pow) (xVar 5) (xK (.int 11))) (xBin (binD T c .Mult) (xBin (binD T c .Mult) (xBin (binD T c .Mult) (xK (.int 15485863)) (xVar 2)) (xVar 5)) (xVar 5))) aNil)) (xBin (binD T c .Add) (xBin (binD T c .Pow) (xK (.int 10)) (xK (.int 47))) (xK (.int 9))))) (sIf (tAnd (tOf (truD T c) (xBin (ordD T c .GtE) (xVar 4) (xBin (binD T c .Pow) (xK (.int 10)) (xK (.int 18))))) (tOf (truD T c) (xBin (ordD T c .Lt) (xVar 2) (xVar 3)))) (sPut (xVar 0) (xK (.str "rest")) (xBin (binD T c .Sub) (xVar 4) (xBin (binD T c .Pow) (xK (.int 10)) (xK (.int 18))))) sNx))))))
theorem drB_eq (c : Fn) : B_5 c = sSeq (sIf (tOf (truD T c) (xBin (ordD T c .Lt) (xBin subD (xVar 0) (xK (.str "rest"))) (xVar 1))) (dqB c) sNx) (drB c) := rfl
theorem dr_run (c : Fn) {st : Store} {k l span : Int} {o2 o3 o4 o5 o6 : Option D} (h : st[1]? = some (.dic (pc k l))) (hd : span ≠ 0 ∧ span.natAbs.log2 < 9000) :
    drB c [some (.ref 1), some (.int span), o2, o3, o4, o5, o6] st = .rt (.int (l.fmod span)) (st.set 1 (.dic (pc k (l.fdiv span)))) := by
  simp [drB, g_rest h, ib_mod _ hd.1, ib_fdiv _ hd, kGp_rest (l.fdiv span) h]
theorem dq_run (c : Fn) {ns : List Int} {st : Store} {k : Nat} {l span : Int} {o2 o3 o4 o5 o6 : Option D} (h : PenAt ns k l st) (hk : k < 1000000) :
    ∃ l' o2' o3' o4' o5', 0 ≤ l' ∧ dqB c [some (.ref 1), some (.int span), o2, o3, o4, o5, o6] st = .nx [some (.ref 1), some (.int span), o2', o3', o4', o5', o6] (st.set 1 (.dic (pc ((k + 1 : Nat) : Int) l'))) := by
  have hlen := h.len0
  have hj : k % ns.length < ns.length := Nat.mod_lt _ hlen
  have h1 := h.set (k' := k + 1) h.rest
  have kb : Nb 20 (k : Int) := Nb.of (by omega) (by omega)
  have nl : (ns.length : Int) ≠ 0 := by omega
  generalize hc : ns[k % ns.length] = cl
  have q1 : subD (.ref 6) (.int ((k : Int).fmod (ns.length : Int))) st = .ok (.int cl) st := by
    rw [fm_nat, nth_lst h.lst _ hj, hc]
  have m1 : IntMulOk cl 982451653 := .of_right (by decide)
  have m2 : IntMulOk 32452843 (k : Int) := (Nb.of (i := 32452843) (b := 30) (by decide) (by decide)).ok kb (by decide)
  have m3 : IntMulOk (32452843 * (k : Int)) (k : Int) := ((Nb.of (i := 32452843) (b := 30) (by decide) (by decide)).mul kb).ok kb (by decide)
  have n1 : Nb 30 (15485863 : Int) := Nb.of (by decide) (by decide)
  have n2 : Nb 50 (15485863 * (k : Int)) := (n1.mul kb).mono (by decide)
  have m4 : IntMulOk 15485863 (k : Int) := n1.ok kb (by decide)
  have hm := mX_nb cl k
  have m5 : IntMulOk (15485863 * (k : Int)) (mX cl k) := n2.ok hm (by decide)
  have m6 : IntMulOk (15485863 * (k : Int) * mX cl k) (mX cl k) := (n2.mul hm).ok hm (by decide)
  have p1 : (0 : Int) ≤ 11 ∧ (11 : Int) ≤ 1000000 ∧ (mX cl k).natAbs < 2 ^ 64 := ⟨by decide, by decide, hm.mono (b' := 64) (by decide)⟩
  have hp : intBin .Pow (mX cl k) 11 (st.set 1 (.dic (pc ((k + 1 : Nat) : Int) l))) = .ok (.int (mX cl k ^ 11)) _ := ib_pow p1
  have ef : (cl * 982451653 + 32452843 * (k : Int) * (k : Int) + 961748941).fmod 2305843009213693907 = mX cl k := rfl
  have er : (mX cl k ^ 11 + 15485863 * (k : Int) * mX cl k * mX cl k).fmod 100000000000000000000000000000000000000000000009 = rX (mX cl k) k := rfl
  have ss : ∀ a b : Cell, (st.set 1 a).set 1 b = st.set 1 b := fun a b => List.set_set _
  have hr : 0 ≤ rX (mX cl k) k := fmod_nn _ (by decide)
  have h2 := h1.set (k' := k + 1) hr
  rw [ss] at h2
  have ha : ((k : Int) + 1) = ((k + 1 : Nat) : Int) := by omega
  by_cases hg : 1000000000000000000 ≤ cl ∧ (k : Int) < (ns.length : Int)
  · refine ⟨cl - 1000000000000000000, some (.int k), some (.int ns.length), some (.int cl), some (.int (mX cl k)), by omega, ?_⟩
    simp [-Int.natCast_add, dqB, ap_sPut, kPu1_, kPu2_, g_rest h1.dic, g_at h.dic, g_cells h.dic, len_lst h.lst, ib_mod _ nl, q1, kGp_at _ h.dic, ha, ib_mul _ m1, ib_mul _ m2, ib_mul _ m3, ib_mul _ m4, ib_mul _ m5, ib_mul _ m6, ib_mod, ef, hp, pow10_47, pow10_18, er, kPu_rest _ h1.dic, kPu_rest _ h2.dic, ss, hg.1, hg.2]
  · refine ⟨rX (mX cl k) k, some (.int k), some (.int ns.length), some (.int cl), some (.int (mX cl k)), hr, ?_⟩
    by_cases hg1 : 1000000000000000000 ≤ cl
    · have hg2 : ¬ (k : Int) < (ns.length : Int) := fun z => hg ⟨hg1, z⟩
      have hg2' : ¬ k < ns.length := by omega
      simp [-Int.natCast_add, dqB, ap_sPut, kPu1_, kPu2_, g_rest h1.dic, g_at h.dic, g_cells h.dic, len_lst h.lst, ib_mod _ nl, q1, kGp_at _ h.dic, ha, ib_mul _ m1, ib_mul _ m2, ib_mul _ m3, ib_mul _ m4, ib_mul _ m5, ib_mul _ m6, ib_mod, ef, hp, pow10_47, pow10_18, er, kPu_rest _ h1.dic, ss, hg1, hg2']
    · simp [-Int.natCast_add, dqB, ap_sPut, kPu1_, kPu2_, g_rest h1.dic, g_at h.dic, g_cells h.dic, len_lst h.lst, ib_mod _ nl, q1, kGp_at _ h.dic, ha, ib_mul _ m1, ib_mul _ m2, ib_mul _ m3, ib_mul _ m4, ib_mul _ m5, ib_mul _ m6, ib_mod, ef, hp, pow10_47, pow10_18, er, kPu_rest _ h1.dic, ss, hg1]
theorem s_draw {ns : List Int} {k : Nat} {l : Int} {st : Store} (n : Nat) (h : PenAt ns k l st) (hk : k < 1000000) (span : Int) (h0 : 0 < span) (hs : Nb 8000 span) :
    ∃ (v : Int) (k' : Nat) (l' : Int), run (n + 1) 5 [.ref 1, .int span] st = .ok (.int v) (st.set 1 (.dic (pc k' l'))) ∧ PenAt ns k' l' (st.set 1 (.dic (pc k' l'))) ∧ k' ≤ k + 1 ∧ 0 ≤ v ∧ v < span := by
  have hn : span ≠ 0 := by omega
  have hd : span ≠ 0 ∧ span.natAbs.log2 < 9000 := ⟨hn, log2_lt (hs.mono (b' := 9000) (by decide)) (by decide)⟩
  rw [run_5, drB_eq]
  have fin : ∀ (v : Int) (k' : Nat) (l' : Int), (sSeq (sIf (tOf (truD T (run n)) (xBin (ordD T (run n) .Lt) (xBin subD (xVar 0) (xK (.str "rest"))) (xVar 1))) (dqB (run n)) sNx) (drB (run n))) (startE 7 [.ref 1, .int span]) st = .rt (.int v) (st.set 1 (.dic (pc k' l'))) → fnD 7 (sSeq (sIf (tOf (truD T (run n)) (xBin (ordD T (run n) .Lt) (xBin subD (xVar 0) (xK (.str "rest"))) (xVar 1))) (dqB (run n)) sNx) (drB (run n))) [.ref 1, .int span] st = .ok (.int v) (st.set 1 (.dic (pc k' l'))) := fun v k' l' e => by
    rw [fnD_rt e]
    have := tidy_pen h k' l' [] (d := .int v) (by simp)
    rwa [List.append_nil] at this
  by_cases hl : l < span
  · obtain ⟨l', o2, o3, o4, o5, hl', e⟩ := dq_run (run n) (span := span) (o2 := none) (o3 := none) (o4 := none) (o5 := none) (o6 := none) h hk
    have h1 := h.set (k' := k + 1) hl'
    refine ⟨l'.fmod span, k + 1, l'.fdiv span, fin _ _ _ ?_, ?_, Nat.le_refl _, fmod_nn _ h0, fmod_lt _ h0⟩
    · have e2 := dr_run (run n) (o2 := o2) (o3 := o3) (o4 := o4) (o5 := o5) (o6 := none) h1.dic hd
      rw [List.set_set] at e2
      simp [-Int.natCast_add, startE, g_rest h.dic, hl, e, e2]
    · have := h1.set (k' := k + 1) (fdiv_nn hl' h0)
      rwa [List.set_set] at this
  · refine ⟨l.fmod span, k, l.fdiv span, fin _ _ _ ?_, h.set (fdiv_nn h.rest h0), Nat.le_succ k, fmod_nn l h0, fmod_lt l h0⟩
    have e2 := dr_run (run n) (o2 := none) (o3 := none) (o4 := none) (o5 := none) (o6 := none) h.dic hd
    simp [startE, g_rest h.dic, hl, e2]
end G08
namespace G08
open PySem PySem.Spec PyProof.Rows L2 Gm
def Pen (b : Nat) (st : Store) : Prop := ∃ ns k l, PenAt ns k l st ∧ k + b ≤ 1000000
def Nx (st st' : Store) : Prop := ∃ k l : Int, st' = st.set 1 (.dic (pc k l))
theorem Pen.mono {b b' : Nat} {st : Store} (h : Pen b st) (hb : b' ≤ b) : Pen b' st := by
  obtain ⟨ns, k, l, p, q⟩ := h
  exact ⟨ns, k, l, p, by omega⟩
theorem Pen.ext {b : Nat} {st : Store} (h : Pen b st) (e : Store) : Pen b (st ++ e) := by
  obtain ⟨ns, k, l, p, q⟩ := h
  exact ⟨ns, k, l, p.ext e, q⟩
theorem Pen.long {b : Nat} {st : Store} (h : Pen b st) : 6 < st.length := by
  obtain ⟨ns, k, l, p, q⟩ := h
  exact p.long
theorem Nx.len {st st' : Store} (h : Nx st st') : st'.length = st.length := by
  obtain ⟨k, l, rfl⟩ := h
  simp
theorem Nx.trans {s1 s2 s3 : Store} (h : Nx s1 s2) (g : Nx s2 s3) : Nx s1 s3 := by
  obtain ⟨k, l, rfl⟩ := h
  obtain ⟨k', l', rfl⟩ := g
  exact ⟨k', l', by rw [List.set_set]⟩
theorem Pen.self {b : Nat} {st : Store} (h : Pen b st) : Nx st st := by
  obtain ⟨ns, k, l, p, q⟩ := h
  refine ⟨k, l, ?_⟩
  have hl := (List.getElem?_eq_some_iff.mp p.dic)
  obtain ⟨h1, h2⟩ := hl
  rw [← h2, List.set_getElem_self]
theorem Nx.split {b : Nat} {st e s : Store} (h : Nx (st ++ e) s) (hl : 6 < st.length) (hp : Pen b s) : ∃ s', s = s' ++ e ∧ Nx st s' ∧ Pen b s' := by
  obtain ⟨k, l, rfl⟩ := h
  rw [List.set_append_left _ _ (by omega)] at hp ⊢
  refine ⟨_, rfl, ⟨k, l, rfl⟩, ?_⟩
  obtain ⟨ns, k', l', p, q⟩ := hp
  refine ⟨ns, k', l', ⟨?_, ?_, p.rest, p.len, p.len0⟩, q⟩
  · have := p.dic
    rwa [List.getElem?_append_left (by simp; omega)] at this
  · have := p.lst
    rwa [List.getElem?_append_left (by simp; omega)] at this
theorem tidy_nx {b : Nat} {st st' e : Store} {d : D} (hn : Nx st st') (hp : Pen b st') (hd : noRef st.length d = true) : tidy st (.ok d (st' ++ e)) = .ok d st' := by
  obtain ⟨k, l, rfl⟩ := hn
  refine tidy_set ?_ hd
  show noRefs st.length [.ref 6, .int k, .int l] = true
  have := hp.long
  simp at this
  simp [this]
theorem fnD_pen {n b : Nat} {f : Fs} {ds : List D} {st st' e : Store} {d : D} (h : f (startE n ds) st = .rt d (st' ++ e)) (hn : Nx st st') (hp : Pen b st') (hd : noRef st.length d = true) : fnD n f ds st = .ok d st' := by
  rw [fnD_rt h]
  exact tidy_nx hn hp hd
theorem fnD_pen0 {n b : Nat} {f : Fs} {ds : List D} {st st' : Store} {d : D} (h : f (startE n ds) st = .rt d st') (hn : Nx st st') (hp : Pen b st') (hd : noRef st.length d = true) : fnD n f ds st = .ok d st' :=
  fnD_pen (e := []) (by rw [List.append_nil]; exact h) hn hp hd
theorem d_draw {b : Nat} {st : Store} (n : Nat) (h : Pen (b + 1) st) (span : Int) (h0 : 0 < span) (hs : Nb 8000 span) : ∃ v st', run (n + 1) 5 [.ref 1, .int span] st = .ok (.int v) st' ∧ Nx st st' ∧ Pen b st' ∧ 0 ≤ v ∧ v < span := by
  obtain ⟨ns, k, l, p, q⟩ := h
  obtain ⟨v, k', l', h1, h2, h3, h4, h5⟩ := s_draw n p (by omega) span h0 hs
  exact ⟨v, _, h1, ⟨k', l', rfl⟩, ⟨ns, k', l', h2, by omega⟩, h4, h5⟩
theorem seqOf_nx {b : Nat} {st st' : Store} {d : D} {ds : List D} (hp : Pen b st) (hn : Nx st st') (h : seqOf d st = some ds) : seqOf d st' = some ds := by
  cases d with
  | tup l => exact h
  | ref m =>
    obtain ⟨k, l, rfl⟩ := hn
    have hm : m ≠ 1 := by
      intro e
      subst e
      obtain ⟨ns, k, l, p, q⟩ := hp
      unfold seqOf at h
      simp only [p.dic] at h
      cases h
    unfold seqOf at h ⊢
    dsimp only at h ⊢
    rw [List.getElem?_set_ne (fun e => hm e.symm)]
    exact h
  | _ => cases h
theorem sub_seq {st : Store} {d : D} {ds : List D} (h : seqOf d st = some ds) (v : Int) (h0 : 0 ≤ v) (h1 : v < ds.length) : ∃ x, x ∈ ds ∧ subD d (.int v) st = .ok x st := by
  have hv : v.toNat < ds.length := by omega
  have ha : atI ds v = some ds[v.toNat] := by
    have := atI_nat (xs := ds) (j := v.toNat) (v := ds[v.toNat]) (by simp [hv])
    rwa [Int.toNat_of_nonneg h0] at this
  refine ⟨ds[v.toNat], List.getElem_mem hv, ?_⟩
  cases d with
  | tup l =>
    cases h
    unfold subD
    simp only [ha]
    rfl
  | ref m =>
    unfold seqOf at h
    dsimp only at h
    unfold subD
    cases hm : st[m]? with
    | none => rw [hm] at h; cases h
    | some x =>
      rw [hm] at h
      simp only [hm]
      cases x <;> cases h <;> (show optR (atI _ _) st = _; rw [ha]; rfl)
  | _ => cases h
theorem bLen_seq {st : Store} {d : D} {ds : List D} (h : seqOf d st = some ds) : bLen [d] st = .ok (.int ds.length) st := by
  cases d with
  | tup l => cases h; rfl
  | ref m =>
    unfold bLen
    simp only [h]
  | _ => cases h
theorem d_pick {b : Nat} {st : Store} (n : Nat) (h : Pen (b + 1) st) (items : D) (ds : List D) (hi : seqOf items st = some ds) (h0 : 0 < ds.length) (h1 : ds.length < 1000) (hd : ∀ d ∈ ds, noRef st.length d = true) :
    ∃ d st', run (n + 2) 6 [.ref 1, items] st = .ok d st' ∧ Nx st st' ∧ Pen b st' ∧ d ∈ ds := by
  obtain ⟨v, st', e1, e2, e3, e4, e5⟩ := d_draw n h ds.length (by omega) ((Nb.of (b := 10) (by omega) (by omega)).mono (by decide))
  obtain ⟨x, hx, hs⟩ := sub_seq (seqOf_nx h e2 hi) v e4 e5
  refine ⟨x, st', ?_, e2, e3, hx⟩
  rw [run_6]
  refine fnD_pen0 ?_ e2 e3 (hd x hx)
  simp [B_6, startE, bLen_seq hi, e1, hs]
end G08
namespace G08
open PySem PySem.Spec PyProof.Rows L2 Gm
theorem for_of {fi : Fi} {g : Fg} {b : Fs} {ρ : Ev} {st : Store} {ds : List D} {chk : Store → Prop} (h : fi ρ st = .ok (ds, chk) st) : sFor fi g b ρ st = forI chk g b ds ρ st := by
  rw [ap_sFor, h, Res.toS_ok, kFor_]
theorem forI_step {chk : Store → Prop} {g : Fg} {b : Fs} {d : D} {ds : List D} {ρ ρ1 ρ2 : Ev} {st st1 st2 : Store} (hc : chk st) (hg : g d ρ st = .ok ρ1 st1) (hb : b ρ1 st1 = .nx ρ2 st2) : forI chk g b (d :: ds) ρ st = forI chk g b ds ρ2 st2 := by
  conv => lhs; unfold forI
  rw [if_pos hc, hg]
  simp only [hb]
theorem forI_end {chk : Store → Prop} {g : Fg} {b : Fs} {ρ : Ev} {st : Store} (hc : chk st) : forI chk g b [] ρ st = .nx ρ st := by
  unfold forI
  exact if_pos hc
theorem seq_step {a b : Fs} {ρ ρ' : Ev} {st st' : Store} {r : SR} (h : a ρ st = .nx ρ' st') (g : b ρ' st' = r) : sSeq a b ρ st = r := by
  rw [ap_sSeq, h]
  exact g
theorem forI_brk {chk : Store → Prop} {g : Fg} {b : Fs} {d : D} {ds : List D} {ρ ρ1 ρ2 : Ev} {st st1 st2 : Store} (hc : chk st) (hg : g d ρ st = .ok ρ1 st1) (hb : b ρ1 st1 = .bk ρ2 st2) : forI chk g b (d :: ds) ρ st = .nx ρ2 st2 := by
  conv => lhs; unfold forI
  rw [if_pos hc, hg]
  simp only [hb]
theorem rngI {f : Fe} {ρ : Ev} {st st' : Store} {b : Int} (h : f ρ st = .ok (.int b) st') (h0 : 0 ≤ b) (hb : b < 2 ^ 62) : iRng (aCons f aNil) ρ st = .ok (intsFrom 0 b.toNat, fun _ => True) st' := by
  have e : (aCons f aNil) ρ st = .ok [.int b] st' := by
    rw [ap_aCons, h]
    rfl
  unfold iRng
  rw [e, Res.bind_ok]
  show (if _ then _ else _) = _
  rw [if_pos ⟨by omega, by omega⟩]
theorem ints_len (i : Int) (n : Nat) : (intsFrom i n).length = n := by
  unfold Gm.intsFrom
  simp
theorem for_of' {fi : Fi} {g : Fg} {b : Fs} {ρ : Ev} {st st' : Store} {ds : List D} {chk : Store → Prop} (h : fi ρ st = .ok (ds, chk) st') : sFor fi g b ρ st = forI chk g b ds ρ st' := by
  rw [ap_sFor, h, Res.toS_ok, kFor_]
theorem bin_si (k : Fn) (op : Operator) (x : Str) (i : Int) (st : Store) (h : op = .Mult ∧ MulOk x i) : binD T k op (.str x) (.int i) st = .ok (.str (Txt.mul x i)) st := if_pos h
theorem bin_ss (k : Fn) (x y : Str) (st : Store) (h : x.length + y.length ≤ sizeLine) : binD T k .Add (.str x) (.str y) st = .ok (.str (x ++ y)) st := if_pos ⟨rfl, h⟩
theorem b_ints {a : Str} {i : Int} (st : Store) (h : PySem.intText? a = some i) (hl : a.length ≤ 640) : bInt [.str a] st = .ok (.int i) st := by
  unfold bInt
  dsimp only
  rw [h]
  exact if_pos hl
abbrev TenP (f : Nat) : Prop := ((((decide ((f : Int) < -(2 ^ 63 : Int)) || decide ((f : Int) ≥ 2 ^ 63)) = false ∧ (¬ (f : Int) < 1 → ((f : Int) == 1 || ("0" : Str).length == 0) = false → ¬ ((("0" : Str).length : Int) > (2 ^ 63 - 1) / (f : Int))) ∧
  (¬ (f : Int) < 1 → ((f : Int) == 1 || ("0" : Str).length == 0) = false → Builtin.Str.tooLong (("0" : Str).length * (f : Int).toNat) = false))) ∧ ("1" : Str).length + (Txt.mul "0" (f : Int)).length ≤ sizeLine ∧ PySem.intText? (("1" : Str) ++ Txt.mul "0" (f : Int)) = some ((10 ^ f : Nat) : Int)) ∧ (("1" : Str) ++ Txt.mul "0" (f : Int)).length ≤ 640
theorem ten_a : ∀ f : Fin 72, TenP f.val := by
  decide +kernel
theorem x72 : TenP 72 := by decide +kernel
theorem x73 : TenP 73 := by decide +kernel
theorem x74 : TenP 74 := by decide +kernel
theorem x75 : TenP 75 := by decide +kernel
theorem x76 : TenP 76 := by decide +kernel
theorem x77 : TenP 77 := by decide +kernel
theorem x78 : TenP 78 := by decide +kernel
theorem x79 : TenP 79 := by decide +kernel
theorem x80 : TenP 80 := by decide +kernel
theorem x81 : TenP 81 := by decide +kernel
theorem x82 : TenP 82 := by decide +kernel
theorem x83 : TenP 83 := by decide +kernel
theorem x84 : TenP 84 := by decide +kernel
theorem x85 : TenP 85 := by decide +kernel
theorem x86 : TenP 86 := by decide +kernel
theorem x87 : TenP 87 := by decide +kernel
theorem x88 : TenP 88 := by decide +kernel
theorem x89 : TenP 89 := by decide +kernel
theorem x90 : TenP 90 := by decide +kernel
theorem x91 : TenP 91 := by decide +kernel
theorem x92 : TenP 92 := by decide +kernel
theorem x93 : TenP 93 := by decide +kernel
theorem x94 : TenP 94 := by decide +kernel
theorem x95 : TenP 95 := by decide +kernel
theorem x96 : TenP 96 := by decide +kernel
theorem x97 : TenP 97 := by decide +kernel
theorem x98 : TenP 98 := by decide +kernel
theorem x99 : TenP 99 := by decide +kernel
theorem x100 : TenP 100 := by decide +kernel
theorem x101 : TenP 101 := by decide +kernel
theorem x102 : TenP 102 := by decide +kernel
theorem x103 : TenP 103 := by decide +kernel
theorem x104 : TenP 104 := by decide +kernel
theorem x105 : TenP 105 := by decide +kernel
theorem x106 : TenP 106 := by decide +kernel
theorem ten_b (f : Nat) (h1 : 72 ≤ f) (h2 : f < 107) : TenP f := by
  rcases (show f = 72 ∨ f = 73 ∨ f = 74 ∨ f = 75 ∨ f = 76 ∨ f = 77 ∨ f = 78 ∨ f = 79 ∨ f = 80 ∨ f = 81 ∨ f = 82 ∨ f = 83 ∨ f = 84 ∨ f = 85 ∨ f = 86 ∨ f = 87 ∨ f = 88 ∨ f = 89 ∨ f = 90 ∨ f = 91 ∨ f = 92 ∨ f = 93 ∨ f = 94 ∨ f = 95 ∨ f = 96 ∨ f = 97 ∨ f = 98 ∨ f = 99 ∨ f = 100 ∨ f = 101 ∨ f = 102 ∨ f = 103 ∨ f = 104 ∨ f = 105 ∨ f = 106 by omega) with rfl | rfl | rfl | rfl | rfl | rfl | rfl | rfl | rfl | rfl | rfl | rfl | rfl | rfl | rfl | rfl | rfl | rfl | rfl | rfl | rfl | rfl | rfl | rfl | rfl | rfl | rfl | rfl | rfl | rfl | rfl | rfl | rfl | rfl | rfl
  · exact x72
  · exact x73
  · exact x74
  · exact x75
  · exact x76
  · exact x77
  · exact x78
  · exact x79
  · exact x80
  · exact x81
  · exact x82
  · exact x83
  · exact x84
  · exact x85
  · exact x86
  · exact x87
  · exact x88
  · exact x89
  · exact x90
  · exact x91
  · exact x92
  · exact x93
  · exact x94
  · exact x95
  · exact x96
  · exact x97
  · exact x98
  · exact x99
  · exact x100
  · exact x101
  · exact x102
  · exact x103
  · exact x104
  · exact x105
  · exact x106
theorem ten_all (f : Fin 107) : TenP f.val := by
  have h2 := f.isLt
  by_cases h : f.val < 72
  · exact ten_a ⟨f.val, h⟩
  · exact ten_b f.val (by omega) h2
theorem s_ten (n f : Nat) (hf : f ≤ 106) (st : Store) : run (n + 1) 7 [.int f] st = .ok (.int ((10 ^ f : Nat) : Int)) st := by
  obtain ⟨⟨h1, h2, h3⟩, h4⟩ := ten_all ⟨f, by omega⟩
  have h1' : MulOk "0" (f : Int) := h1
  rw [run_7]
  refine fnD_rt0 ?_ (by simp)
  simp [B_7, startE, bin_si _ _ _ _ _ ⟨rfl, h1'⟩, bin_ss _ _ _ _ h2, b_ints _ h3 h4]
end G08
namespace G08
open PySem PySem.Spec PyProof.Rows L2 Gm
theorem pow10_15 (st : Store) : intBin .Pow 10 15 st = .ok (.int 1000000000000000) st := rfl
noncomputable def loB (c : Fn) : Fs := (sAsg (xBin (binD T c .Add) (xBin (binD T c .Mult) (xVar 2) (xBin (binD T c .Pow) (xK (.int 10)) (xK (.int 15)))) (xCall T c 5 (aCons (xVar 0) (aCons (xBin (binD T c .Pow) (xK (.int 10)) (xK (.int 15))) aNil)))) (gNm 2))
theorem long_loop (n : Nat) : ∀ (ds : List D) (st : Store) (o1 o3 : Option D) (b : Nat) (f : Int), Pen (b + ds.length) st → 0 ≤ f → ∃ st' f' o3', Nx st st' ∧ Pen b st' ∧ 0 ≤ f' ∧
    forI (fun _ => True) (gNm 3) (loB (run (n + 1))) ds [some (.ref 1), o1, some (.int f), o3] st = .nx [some (.ref 1), o1, some (.int f'), o3'] st' := by
  intro ds
  induction ds with
  | nil =>
    intro st o1 o3 b f h f0
    exact ⟨st, f, o3, h.self, h, f0, forI_end trivial⟩
  | cons x ds ih =>
    intro st o1 o3 b f h f0
    rw [List.length_cons] at h
    obtain ⟨v, s1, e1, n1, p1, v0, v1⟩ := d_draw (b := b + ds.length) n (h.mono (by omega)) 1000000000000000 (by decide) ((Nb.of (b := 50) (by decide) (by decide)).mono (by decide))
    have m : IntMulOk f 1000000000000000 := .of_right (by decide)
    have f3 : 0 ≤ f * 1000000000000000 + v := by
      have := Int.mul_nonneg f0 (show (0 : Int) ≤ 1000000000000000 by decide)
      omega
    obtain ⟨s2, f', o3', n2, p2, g0, e⟩ := ih s1 o1 (some x) b (f * 1000000000000000 + v) p1 f3
    refine ⟨s2, f', o3', n1.trans n2, p2, g0, ?_⟩
    rw [← e]
    refine forI_step trivial rfl ?_
    unfold loB
    simp [pow10_15, ib_mul, m, e1]
theorem d_long {b : Nat} {st : Store} (n f : Nat) (hf : f ≤ 106) (h : Pen (b + 9) st) : ∃ v st', run (n + 2) 8 [.ref 1, .int f] st = .ok (.int v) st' ∧ Nx st st' ∧ Pen b st' ∧ 0 ≤ v ∧ v < ((10 ^ f : Nat) : Int) := by
  have e15 : intBin .FloorDiv ((f : Int) + 14) 15 st = .ok (.int (((f + 14) / 15 : Nat) : Int)) st := by
    rw [ib_fdiv _ ⟨by decide, by decide⟩, show (f : Int) + 14 = ((f + 14 : Nat) : Int) by omega]
    congr 2
  have hl : (f + 14) / 15 ≤ 8 := by omega
  have hr : iRng (aCons (xBin (binD T (run (n + 1)) .FloorDiv) (xBin (binD T (run (n + 1)) .Add) (xVar 1) (xK (.int 14))) (xK (.int 15))) aNil) [some (.ref 1), some (.int (f : Int)), some (.int 0), none] st = .ok (Gm.intsFrom 0 ((((f + 14) / 15 : Nat) : Int)).toNat, fun _ => True) st :=
    rngI (by simp [e15]) (by omega) (by omega)
  obtain ⟨s1, f', o3, n1, p1, f0, e1⟩ := long_loop n (Gm.intsFrom 0 ((((f + 14) / 15 : Nat) : Int)).toNat) st (some (.int (f : Int))) none b 0 (h.mono (by rw [ints_len]; omega)) (by decide)
  have ht := s_ten n f hf s1
  have hp : (0 : Int) < ((10 ^ f : Nat) : Int) := by
    have := Nat.pow_pos (n := f) (show 0 < 10 by decide)
    omega
  have hne : ((10 ^ f : Nat) : Int) ≠ 0 := by omega
  refine ⟨f'.fmod ((10 ^ f : Nat) : Int), s1, ?_, n1, p1, fmod_nn _ hp, fmod_lt _ hp⟩
  rw [run_8]
  refine fnD_pen0 ?_ n1 p1 (by simp)
  have hB : B_8 (run (n + 1)) = sSeq (sAsg (xK (.int 0)) (gNm 2)) (sSeq (sFor (iRng (aCons (xBin (binD T (run (n + 1)) .FloorDiv) (xBin (binD T (run (n + 1)) .Add) (xVar 1) (xK (.int 14))) (xK (.int 15))) aNil)) (gNm 3) (loB (run (n + 1)))) (sRet (xBin (binD T (run (n + 1)) .Mod) (xBi bInt (aCons (xVar 2) aNil)) (xCall T (run (n + 1)) 7 (aCons (xVar 1) aNil))))) := rfl
  rw [hB]
  refine seq_step rfl (seq_step ((for_of' hr).trans e1) ?_)
  simp [-Int.natCast_pow, ht, ib_mod _ hne]
theorem ten_le {i j : Nat} (h : i ≤ j) : ((10 ^ i : Nat) : Int) ≤ ((10 ^ j : Nat) : Int) := by
  have := Nat.pow_le_pow_right (show 0 < 10 by decide) h
  omega
theorem b_max (i j : Int) (st : Store) : bMax [.int i, .int j] st = .ok (.int (if j > i then j else i)) st := rfl
noncomputable def sz1 (c : Fn) : Fs := (sIf (tOf (truD T c) (xBin (ordD T c .Lt) (xVar 2) (xK (.int 3)))) (sRet (xCall T c 5 (aCons (xVar 0) (aCons (xBin subD (xLst (aCons (xK (.int 5)) (aCons (xK (.int 13)) (aCons (xK (.int 90)) aNil)))) (xVar 2)) aNil)))) sNx)
noncomputable def sz2 (c : Fn) : Fs := (sSeq (sIf (tOf (truD T c) (xBin (eqB T c false) (xVar 2) (xK (.int 3)))) (sRet (xCall T c 8 (aCons (xVar 0) (aCons (xBin (binD T c .Add) (xK (.int 1)) (xCall T c 5 (aCons (xVar 0) (aCons (xVar 1) aNil)))) aNil)))) sNx) (sSeq (sIf (tOf (truD T c) (xBin (eqB T c false) (xVar 2) (xK (.int 4)))) (sRet (xCall T c 8 (aCons (xVar 0) (aCons (xVar 1) aNil)))) sNx) (sRet (xBi bMax (aCons (xK (.int 0)) (aCons (xBin (binD T c .Sub) (xBin (binD T c .Sub) (xCall T c 7 (aCons (xBin (binD T c .Add) (xK (.int 1)) (xCall T c 5 (aCons (xVar 0) (aCons (xVar 1) aNil)))) aNil)) (xCall T c 5 (aCons (xVar 0) (aCons (xK (.int 4)) aNil)))) (xK (.int 1))) aNil))))))
theorem size_eq (c : Fn) : B_9 c = sSeq (sAsg (xCall T c 5 (aCons (xVar 0) (aCons (xK (.int 6)) aNil))) (gNm 2)) (sSeq (sz1 c) (sz2 c)) := rfl
theorem nb_small {v : Int} (h0 : 0 ≤ v) (h : v < 1000) : Nb 8000 v := (Nb.of (b := 10) h0 (by omega)).mono (by decide)
theorem sz_lo {b : Nat} {s1 : Store} (n f : Nat) (so : Int) (v0 : 0 ≤ so) (c3 : so < 3) (p1 : Pen (b + 1) s1) : ∃ v s2, sz1 (run (n + 1)) [some (.ref 1), some (.int (f : Int)), some (.int so)] s1 = .rt (.int v) (s2 ++ [.lst [.int 5, .int 13, .int 90]]) ∧ Nx s1 s2 ∧ Pen b s2 ∧ 0 ≤ v ∧ v < 100 := by
  obtain ⟨lim, hl, l0, l1⟩ : ∃ lim : Int, atI [D.int 5, D.int 13, D.int 90] so = some (D.int lim) ∧ 0 < lim ∧ lim ≤ 90 := by
    have : so = 0 ∨ so = 1 ∨ so = 2 := by omega
    rcases this with rfl | rfl | rfl
    · exact ⟨5, rfl, by decide, by decide⟩
    · exact ⟨13, rfl, by decide, by decide⟩
    · exact ⟨90, rfl, by decide, by decide⟩
  obtain ⟨v, s2, e2, n2, p2, w0, w1⟩ := d_draw (b := b) n (p1.ext [.lst [.int 5, .int 13, .int 90]]) lim l0 (nb_small (by omega) (by omega))
  obtain ⟨s2, rfl, n2, p2⟩ := n2.split p1.long p2
  refine ⟨v, s2, ?_, n2, p2, w0, by omega⟩
  have hs : subD (.ref s1.length) (.int so) (s1 ++ [.lst [.int 5, .int 13, .int 90]]) = .ok (.int lim) (s1 ++ [.lst [.int 5, .int 13, .int 90]]) := by
    rw [subR (l := [.int 5, .int 13, .int 90]) (by simp), hl]
    rfl
  simp [sz1, c3, newLst, hs, e2]
theorem sz_hi {s1 : Store} (c : Fn) (f : Nat) (so : Int) (c3 : ¬ so < 3) : sz1 c [some (.ref 1), some (.int (f : Int)), some (.int so)] s1 = .nx [some (.ref 1), some (.int (f : Int)), some (.int so)] s1 := by
  simp [sz1, c3]
theorem sz_3a {s1 s2 s3 : Store} (v g : Int) (c : Fn) (f : Nat) (so : Int) (c3 : (so == 3) = true) (e2 : c 5 [.ref 1, .int (f : Int)] s1 = .ok (.int g) s2) (e3 : c 8 [.ref 1, .int (1 + g)] s2 = .ok (.int v) s3) : sz2 c [some (.ref 1), some (.int (f : Int)), some (.int so)] s1 = .rt (.int v) s3 := by
  simp [sz2, e2, e3, c3]
theorem sz_4a {s1 s3 : Store} (v : Int) (c : Fn) (f : Nat) (so : Int) (c3 : (so == 3) = false) (c4 : (so == 4) = true) (e3 : c 8 [.ref 1, .int (f : Int)] s1 = .ok (.int v) s3) : sz2 c [some (.ref 1), some (.int (f : Int)), some (.int so)] s1 = .rt (.int v) s3 := by
  simp [sz2, e3, c3, c4]
theorem sz_3 {b : Nat} {s1 : Store} (n f : Nat) (so : Int) (c3 : (so == 3) = true) (h2 : 2 ≤ f) (hf : f ≤ 105) (p1 : Pen (b + 10) s1) : ∃ v s3, sz2 (run (n + 2)) [some (.ref 1), some (.int (f : Int)), some (.int so)] s1 = .rt (.int v) s3 ∧ Nx s1 s3 ∧ Pen b s3 ∧ 0 ≤ v ∧ v < ((10 ^ f : Nat) : Int) := by
  obtain ⟨g, s2, e2, n2, p2, g0, g1⟩ := d_draw (b := b + 9) (n + 1) p1 (f : Int) (by omega) (nb_small (by omega) (by omega))
  obtain ⟨gn, rfl⟩ : ∃ gn : Nat, g = gn := ⟨g.toNat, by omega⟩
  obtain ⟨v, s3, e3, n3, p3, w0, w1⟩ := d_long (b := b) n (1 + gn) (by omega) p2
  rw [show (((1 + gn : Nat)) : Int) = 1 + (gn : Int) by omega] at e3
  refine ⟨v, s3, ?_, n2.trans n3, p3, w0, Int.lt_of_lt_of_le w1 (ten_le (by omega))⟩
  exact sz_3a v gn _ f so c3 e2 e3
theorem sz_4 {b : Nat} {s1 : Store} (n f : Nat) (so : Int) (c3 : (so == 3) = false) (c4 : (so == 4) = true) (hf : f ≤ 105) (p1 : Pen (b + 9) s1) : ∃ v s3, sz2 (run (n + 2)) [some (.ref 1), some (.int (f : Int)), some (.int so)] s1 = .rt (.int v) s3 ∧ Nx s1 s3 ∧ Pen b s3 ∧ 0 ≤ v ∧ v < ((10 ^ f : Nat) : Int) := by
  obtain ⟨v, s3, e3, n3, p3, w0, w1⟩ := d_long (b := b) n f (by omega) p1
  refine ⟨v, s3, ?_, n3, p3, w0, w1⟩
  exact sz_4a v _ f so c3 c4 e3
theorem sz_5 {b : Nat} {s1 : Store} (n f : Nat) (so : Int) (c3 : (so == 3) = false) (c4 : (so == 4) = false) (h2 : 2 ≤ f) (hf : f ≤ 105) (p1 : Pen (b + 2) s1) : ∃ v s3, sz2 (run (n + 1)) [some (.ref 1), some (.int (f : Int)), some (.int so)] s1 = .rt (.int v) s3 ∧ Nx s1 s3 ∧ Pen b s3 ∧ 0 ≤ v ∧ v < ((10 ^ f : Nat) : Int) := by
  obtain ⟨g, s2, e2, n2, p2, g0, g1⟩ := d_draw (b := b + 1) n p1 (f : Int) (by omega) (nb_small (by omega) (by omega))
  obtain ⟨gn, rfl⟩ : ∃ gn : Nat, g = gn := ⟨g.toNat, by omega⟩
  obtain ⟨u, s3, e3, n3, p3, u0, u1⟩ := d_draw (b := b) n p2 4 (by decide) (nb_small (by decide) (by decide))
  have ht := s_ten n (1 + gn) (by omega) s2
  rw [show (((1 + gn : Nat)) : Int) = 1 + (gn : Int) by omega] at ht
  have hle := ten_le (show 1 + gn ≤ f by omega)
  have hp : (0 : Int) < ((10 ^ f : Nat) : Int) := by
    have := Nat.pow_pos (n := f) (show 0 < 10 by decide)
    omega
  generalize ((10 ^ (1 + gn) : Nat) : Int) = t at ht hle
  refine ⟨if t - u - 1 > 0 then t - u - 1 else 0, s3, ?_, n2.trans n3, p3, ?_, ?_⟩
  · simp [sz2, e2, e3, ht, c3, c4, b_max]
  · split <;> omega
  · split <;> omega
theorem d_size {b : Nat} {st : Store} (n f : Nat) (h2 : 2 ≤ f) (hf : f ≤ 105) (h : Pen (b + 14) st) : ∃ v st', run (n + 3) 9 [.ref 1, .int f] st = .ok (.int v) st' ∧ Nx st st' ∧ Pen b st' ∧ 0 ≤ v ∧ v < ((10 ^ f : Nat) : Int) := by
  obtain ⟨so, s1, e1, n1, p1, v0, v1⟩ := d_draw (b := b + 13) (n + 1) h 6 (by decide) (nb_small (by decide) (by decide))
  have hA : sAsg (xCall T (run (n + 2)) 5 (aCons (xVar 0) (aCons (xK (.int 6)) aNil))) (gNm 2) (startE 3 [.ref 1, .int f]) st = .nx [some (.ref 1), some (.int (f : Int)), some (.int so)] s1 := by
    simp [startE, e1]
  rw [run_9, size_eq]
  have fin : ∀ {v : Int} {s e : Store}, sSeq (sz1 (run (n + 2))) (sz2 (run (n + 2))) [some (.ref 1), some (.int (f : Int)), some (.int so)] s1 = .rt (.int v) (s ++ e) → Nx s1 s → Pen b s → fnD 3 (sSeq (sAsg (xCall T (run (n + 2)) 5 (aCons (xVar 0) (aCons (xK (.int 6)) aNil))) (gNm 2)) (sSeq (sz1 (run (n + 2))) (sz2 (run (n + 2))))) [.ref 1, .int f] st = .ok (.int v) s := fun {v s e} g hn hp =>
    fnD_pen (seq_step hA g) (n1.trans hn) hp (by simp)
  by_cases c3 : so < 3
  · obtain ⟨v, s2, e2, n2, p2, w0, w1⟩ := sz_lo (b := b) (n + 1) f so v0 c3 (p1.mono (by omega))
    refine ⟨v, s2, fin (e := [.lst [.int 5, .int 13, .int 90]]) ?_ n2 p2, n1.trans n2, p2, w0, ?_⟩
    · rw [ap_sSeq, e2]
      rfl
    · have := ten_le h2
      have : ((10 ^ 2 : Nat) : Int) = 100 := rfl
      omega
  · have fin2 : ∀ {v : Int} {s : Store}, sz2 (run (n + 2)) [some (.ref 1), some (.int (f : Int)), some (.int so)] s1 = .rt (.int v) s → Nx s1 s → Pen b s → 0 ≤ v → v < ((10 ^ f : Nat) : Int) → ∃ v st', fnD 3 (sSeq (sAsg (xCall T (run (n + 2)) 5 (aCons (xVar 0) (aCons (xK (.int 6)) aNil))) (gNm 2)) (sSeq (sz1 (run (n + 2))) (sz2 (run (n + 2))))) [.ref 1, .int f] st = .ok (.int v) st' ∧ Nx st st' ∧ Pen b st' ∧ 0 ≤ v ∧ v < ((10 ^ f : Nat) : Int) := fun {v s} g hn hp w0 w1 =>
      ⟨v, s, fin (e := []) (seq_step (sz_hi _ f so c3) (by rw [List.append_nil]; exact g)) hn hp, n1.trans hn, hp, w0, w1⟩
    by_cases c4 : so = 3
    · obtain ⟨v, s3, e3, n3, p3, w0, w1⟩ := sz_3 (b := b) n f so (by simpa using c4) h2 hf (p1.mono (by omega))
      exact fin2 e3 n3 p3 w0 w1
    · by_cases c5 : so = 4
      · obtain ⟨v, s3, e3, n3, p3, w0, w1⟩ := sz_4 (b := b) n f so (by simpa using c4) (by simpa using c5) hf (p1.mono (by omega))
        exact fin2 e3 n3 p3 w0 w1
      · obtain ⟨v, s3, e3, n3, p3, w0, w1⟩ := sz_5 (b := b) (n + 1) f so (by simpa using c4) (by simpa using c5) h2 hf (p1.mono (by omega))
        exact fin2 e3 n3 p3 w0 w1
theorem d_number {b : Nat} {st : Store} (n f : Nat) (h2 : 2 ≤ f) (hf : f ≤ 105) (h : Pen (b + 15) st) : ∃ v st', run (n + 4) 10 [.ref 1, .int f] st = .ok (.int v) st' ∧ Nx st st' ∧ Pen b st' ∧ v.natAbs < 10 ^ f := by
  obtain ⟨v, s1, e1, n1, p1, v0, v1⟩ := d_size (b := b + 1) n f h2 hf h
  obtain ⟨u, s2, e2, n2, p2, u0, u1⟩ := d_draw (b := b) (n + 2) p1 2 (by decide) (nb_small (by decide) (by decide))
  have hu : u = 0 ∨ u = 1 := by omega
  rcases hu with rfl | rfl
  · refine ⟨v, s2, ?_, n1.trans n2, p2, by omega⟩
    rw [run_10]
    refine fnD_pen0 ?_ (n1.trans n2) p2 (by simp)
    simp [B_10, startE, e1, e2]
  · refine ⟨-v, s2, ?_, n1.trans n2, p2, by omega⟩
    rw [run_10]
    refine fnD_pen0 ?_ (n1.trans n2) p2 (by simp)
    simp [B_10, startE, e1, e2]
end G08
namespace G08
open PySem PySem.Spec PyProof.Rows L2 Gm
def IsN (a : D) (q : Rat) : Prop := a = rD q ∨ ∃ i : Int, a = .int i ∧ q = (i : Rat)
theorem IsN.rD (q : Rat) : IsN (rD q) q := .inl rfl
theorem IsN.int (i : Int) : IsN (.int i) (i : Rat) := .inr ⟨i, rfl, rfl⟩
theorem s_rof {a : D} {q : Rat} (n : Nat) (st : Store) (h : IsN a q) : run (n + 3) 3 [a] st = .ok (rD q) st := by
  rcases h with rfl | ⟨i, rfl, rfl⟩
  · exact s_ratio_of (n + 2) q st
  · exact s_ratio_of_int n i st
end G08
namespace G08
open PySem PySem.Spec PyProof.Rows L2 Gm
theorem rat_le (p q : Rat) : p ≤ q ↔ p.num * (q.den : Int) ≤ q.num * (p.den : Int) := Rat.le_iff p q
theorem rat_lt (p q : Rat) : p < q ↔ p.num * (q.den : Int) < q.num * (p.den : Int) := by
  rw [← Rat.not_le, rat_le]
  omega
def fl (q : Rat) : Int := q.num.fdiv q.den
section
variable (n : Nat) {p q : Rat} (st : Store)
theorem s_floor (hp : Sz 4000 p) : run (n + 1) 48 [rD p] st = .ok (.int (fl p)) st := by
  rw [run_48]
  refine fnD_rt0 ?_ (by simp)
  have h := ib_fdiv (st := st) (i := p.num) (j := (p.den : Int)) ⟨Rat.den_ne' p, log2_lt (hp.den.mono (b' := 9000) (by decide)) (by decide)⟩
  simp [B_48, startE, fd_top, fd_bottom, h, fl]
end
end G08
namespace G08
open PySem PySem.Spec PyProof.Rows L2 Gm
theorem s_isnumN {d : D} {q : Rat} (n : Nat) (h : IsN d q) (st : Store) : run (n + 1) 0 [d] st = .ok (.bl true) st := by
  rcases h with rfl | ⟨i, rfl, _⟩
  · exact s_isnum n q st
  · exact s_isnum_int n i st
theorem ordD_obj {T : Ls} {c : Fn} {op : CmpOp} {i f : Nat} {ds : List D} {d2 : D} (st : Store) (hm : T.meth i (cmn op) = some f) (ho : isOrd op = true) (hr : rhs T d2 = true) : ordD T c op (.obj i ds) d2 st = callD T c f [.obj i ds, d2] st := by
  unfold ordD
  simp only [hm]
  exact if_pos ⟨ho, hr⟩
theorem ordD_int {T : Ls} {c : Fn} {op : CmpOp} {i f : Nat} {ds : List D} {j : Int} (st : Store) (hm : T.meth i (cmr op) = some f) (ho : isOrd op = true) : ordD T c op (.int j) (.obj i ds) st = callD T c f [.obj i ds, .int j] st := by
  unfold ordD
  simp only [hm]
  exact if_pos ho
theorem rhs_N {d : D} {q : Rat} (h : IsN d q) : rhs T d = true := by
  rcases h with rfl | ⟨i, rfl, _⟩ <;> rfl
theorem s_clt {d : D} {p q : Rat} (n : Nat) (h : IsN d q) (hp : Sz 4000 p) (hq : Sz 4000 q) (st : Store) : run (n + 4) 28 [rD p, d] st = .ok (.bl (decide (p < q))) st := by
  rw [run_28]
  refine fnD_rt0 ?_ (by simp)
  have e1 := s_isnumN (n + 2) h st
  have e2 := s_rof n st h
  have e : decide (p < q) = decide (p.num * (q.den : Int) < q.num * (p.den : Int)) := by
    rw [decide_eq_decide]
    exact rat_lt p q
  rw [e]
  simp [B_28, startE, e1, e2, fd_top, fd_bottom, ib_mul, hp.num.ok hq.den (by decide), hq.num.ok hp.den (by decide)]
theorem o_lt {d : D} {p q : Rat} (n : Nat) (h : IsN d q) (hp : Sz 4000 p) (hq : Sz 4000 q) (st : Store) : ordD T (run (n + 4)) .Lt (rD p) d st = .ok (.bl (decide (p < q))) st :=
  (ordD_obj (i := 0) (f := 28) st rfl rfl (rhs_N h)).trans (s_clt n h hp hq st)
theorem s_cle {d : D} {p q : Rat} (n : Nat) (h : IsN d q) (hp : Sz 4000 p) (hq : Sz 4000 q) (st : Store) : run (n + 4) 29 [rD p, d] st = .ok (.bl (decide (p ≤ q))) st := by
  rw [run_29]
  refine fnD_rt0 ?_ (by simp)
  have e1 := s_isnumN (n + 2) h st
  have e2 := s_rof n st h
  have e : decide (p ≤ q) = decide (p.num * (q.den : Int) ≤ q.num * (p.den : Int)) := by
    rw [decide_eq_decide]
    exact rat_le p q
  rw [e]
  simp [B_29, startE, e1, e2, fd_top, fd_bottom, ib_mul, hp.num.ok hq.den (by decide), hq.num.ok hp.den (by decide)]
theorem o_le {d : D} {p q : Rat} (n : Nat) (h : IsN d q) (hp : Sz 4000 p) (hq : Sz 4000 q) (st : Store) : ordD T (run (n + 4)) .LtE (rD p) d st = .ok (.bl (decide (p ≤ q))) st :=
  (ordD_obj (i := 0) (f := 29) st rfl rfl (rhs_N h)).trans (s_cle n h hp hq st)
theorem s_cgt {d : D} {p q : Rat} (n : Nat) (h : IsN d q) (hp : Sz 4000 p) (hq : Sz 4000 q) (st : Store) : run (n + 4) 30 [rD p, d] st = .ok (.bl (decide (q < p))) st := by
  rw [run_30]
  refine fnD_rt0 ?_ (by simp)
  have e1 := s_isnumN (n + 2) h st
  have e2 := s_rof n st h
  have e : decide (q < p) = decide (q.num * (p.den : Int) < p.num * (q.den : Int)) := by
    rw [decide_eq_decide]
    exact rat_lt q p
  rw [e]
  simp [B_30, startE, e1, e2, fd_top, fd_bottom, ib_mul, hp.num.ok hq.den (by decide), hq.num.ok hp.den (by decide)]
theorem o_gt {d : D} {p q : Rat} (n : Nat) (h : IsN d q) (hp : Sz 4000 p) (hq : Sz 4000 q) (st : Store) : ordD T (run (n + 4)) .Gt (rD p) d st = .ok (.bl (decide (q < p))) st :=
  (ordD_obj (i := 0) (f := 30) st rfl rfl (rhs_N h)).trans (s_cgt n h hp hq st)
theorem s_cge {d : D} {p q : Rat} (n : Nat) (h : IsN d q) (hp : Sz 4000 p) (hq : Sz 4000 q) (st : Store) : run (n + 4) 31 [rD p, d] st = .ok (.bl (decide (q ≤ p))) st := by
  rw [run_31]
  refine fnD_rt0 ?_ (by simp)
  have e1 := s_isnumN (n + 2) h st
  have e2 := s_rof n st h
  have e : decide (q ≤ p) = decide (q.num * (p.den : Int) ≤ p.num * (q.den : Int)) := by
    rw [decide_eq_decide]
    exact rat_le q p
  rw [e]
  simp [B_31, startE, e1, e2, fd_top, fd_bottom, ib_mul, hp.num.ok hq.den (by decide), hq.num.ok hp.den (by decide)]
theorem o_ge {d : D} {p q : Rat} (n : Nat) (h : IsN d q) (hp : Sz 4000 p) (hq : Sz 4000 q) (st : Store) : ordD T (run (n + 4)) .GtE (rD p) d st = .ok (.bl (decide (q ≤ p))) st :=
  (ordD_obj (i := 0) (f := 31) st rfl rfl (rhs_N h)).trans (s_cge n h hp hq st)
theorem oi_lt {p : Rat} (n : Nat) (j : Int) (hp : Sz 4000 p) (hq : Nb 4000 j) (st : Store) : ordD T (run (n + 4)) .Gt (.int j) (rD p) st = .ok (.bl (decide (p < (j : Rat)))) st :=
  (ordD_int (i := 0) (f := 28) st rfl rfl).trans (s_clt (q := (j : Rat)) n (.int j) hp (.int hq (by decide)) st)
theorem oi_le {p : Rat} (n : Nat) (j : Int) (hp : Sz 4000 p) (hq : Nb 4000 j) (st : Store) : ordD T (run (n + 4)) .GtE (.int j) (rD p) st = .ok (.bl (decide (p ≤ (j : Rat)))) st :=
  (ordD_int (i := 0) (f := 29) st rfl rfl).trans (s_cle (q := (j : Rat)) n (.int j) hp (.int hq (by decide)) st)
theorem oi_gt {p : Rat} (n : Nat) (j : Int) (hp : Sz 4000 p) (hq : Nb 4000 j) (st : Store) : ordD T (run (n + 4)) .Lt (.int j) (rD p) st = .ok (.bl (decide ((j : Rat) < p))) st :=
  (ordD_int (i := 0) (f := 30) st rfl rfl).trans (s_cgt (q := (j : Rat)) n (.int j) hp (.int hq (by decide)) st)
theorem oi_ge {p : Rat} (n : Nat) (j : Int) (hp : Sz 4000 p) (hq : Nb 4000 j) (st : Store) : ordD T (run (n + 4)) .LtE (.int j) (rD p) st = .ok (.bl (decide ((j : Rat) ≤ p))) st :=
  (ordD_int (i := 0) (f := 31) st rfl rfl).trans (s_cge (q := (j : Rat)) n (.int j) hp (.int hq (by decide)) st)
theorem ap_xFmt (f : Fe) (ρ : Ev) (st : Store) : xFmt f ρ st = (f ρ st).bind fmtD := rfl
theorem ap_xJs3 (f1 f2 f3 : Fe) (ρ : Ev) (st : Store) : xJs3 f1 f2 f3 ρ st = (f1 ρ st).bind (js3a f2 f3 ρ) := rfl
theorem len_app (a b : Str) : (a ++ b).length = a.length + b.length := by
  first
  | exact PySem.Str.length_append a b
  | exact List.length_append ..
  | simp
section
variable {p : Rat} (n : Nat) (st : Store)
theorem ei_eq (j : Int) (hj : Nb 4000 j) (hp : Sz 4000 p) : eqI T (run (n + 4)) (.int j) (rD p) st = .ok (.bl (decide (p = (j : Rat)))) st := by
  show callD T (run (n + 4)) 27 [rD p, .int j] st = _
  exact s_req_i n p j st
theorem b_radd (j : Int) (hp : Sz 4000 p) (hj : Nb 4000 j) : binD T (run (n + 3)) .Add (.int j) (rD p) st = .ok (rD ((j : Rat) + p)) st := by
  refine (bin_io st (f := 33) (g := 32) rfl rfl rfl).trans ?_
  show run (n + 3) 33 [rD p, .int j] st = _
  have e : (j : Rat) + p = Rat.divInt (p.num + j * p.den) p.den := by
    rw [Rat.add_comm, ← rat_add, Rat.num_intCast, Rat.den_intCast]
    simp
  rw [run_33, e]
  refine fnD_rt0 ?_ (noRef_rD _ _)
  simp [-Rat.divInt_ofNat, B_33, startE, s_isnum_int, fd_top, fd_bottom, ib_mul, hj.ok hp.den (by decide), s_mk n _ _ _ (Rat.den_ne' p) (hp.den.mono (by decide))]
theorem b_rsub (j : Int) (hp : Sz 4000 p) (hj : Nb 4000 j) : binD T (run (n + 3)) .Sub (.int j) (rD p) st = .ok (rD ((j : Rat) - p)) st := by
  refine (bin_io st (f := 35) (g := 34) rfl rfl rfl).trans ?_
  show run (n + 3) 35 [rD p, .int j] st = _
  have e : (j : Rat) - p = Rat.divInt (j * p.den - p.num) p.den := by
    rw [← rat_sub, Rat.num_intCast, Rat.den_intCast]
    simp
  rw [run_35, e]
  refine fnD_rt0 ?_ (noRef_rD _ _)
  simp [-Rat.divInt_ofNat, B_35, startE, s_isnum_int, fd_top, fd_bottom, ib_mul, hj.ok hp.den (by decide), s_mk n _ _ _ (Rat.den_ne' p) (hp.den.mono (by decide))]
def ab (p : Rat) : Rat := Rat.divInt (p.num.natAbs : Int) p.den
theorem s_abs (hp : Sz 4000 p) : bAbsO T (run (n + 3)) [rD p] st = .ok (rD (ab p)) st := by
  show callD T (run (n + 3)) 44 [rD p] st = _
  show run (n + 3) 44 [rD p] st = _
  rw [run_44]
  refine fnD_rt0 ?_ (noRef_rD _ _)
  have h := s_mk n (p.num.natAbs : Int) p.den st (Rat.den_ne' p) (hp.den.mono (by decide))
  have h0 : (if p.num < 0 then -p.num else p.num) = (p.num.natAbs : Int) := by split <;> omega
  simp [-Rat.divInt_ofNat, B_44, startE, fd_top, fd_bottom, h0, h, ab]
theorem hm_floor (k : Fn) (r : Fa) (ρ : Ev) : methK T k 43 r ρ (rD p) st = (r ρ st).bind (kMe T k 48 (rD p)) := methK_obj ρ st T k r rfl
theorem hm_ceil (k : Fn) (r : Fa) (ρ : Ev) : methK T k 42 r ρ (rD p) st = (r ρ st).bind (kMe T k 49 (rD p)) := methK_obj ρ st T k r rfl
theorem hm_sign (k : Fn) (r : Fa) (ρ : Ev) : methK T k 45 r ρ (rD p) st = (r ρ st).bind (kMe T k 51 (rD p)) := methK_obj ρ st T k r rfl
theorem hm_whole (k : Fn) (r : Fa) (ρ : Ev) : methK T k 46 r ρ (rD p) st = (r ρ st).bind (kMe T k 50 (rD p)) := methK_obj ρ st T k r rfl
theorem s_ceil (hp : Sz 4000 p) : run (n + 1) 49 [rD p] st = .ok (.int (-(-p.num).fdiv p.den)) st := by
  rw [run_49]
  refine fnD_rt0 ?_ (by simp)
  have h := ib_fdiv (st := st) (i := -p.num) (j := (p.den : Int)) ⟨Rat.den_ne' p, log2_lt (hp.den.mono (b' := 9000) (by decide)) (by decide)⟩
  simp [B_49, startE, fd_top, fd_bottom, h]
theorem s_sign : run (n + 1) 51 [rD p] st = .ok (.int (if 0 < p.num then 1 else if p.num < 0 then -1 else 0)) st := by
  rw [run_51]
  refine fnD_rt0 ?_ (by simp)
  by_cases h1 : 0 < p.num
  · simp [B_51, startE, fd_top, h1]
  · by_cases h2 : p.num < 0
    · simp [B_51, startE, fd_top, h1, h2]
    · simp [B_51, startE, fd_top, h1, h2]
theorem s_whole : run (n + 1) 50 [rD p] st = .ok (.bl ((p.den : Int) == 1)) st := by
  rw [run_50]
  refine fnD_rt0 ?_ (by simp)
  simp [B_50, startE, fd_bottom]
theorem s_overN {d : D} {q : Rat} (h : IsN d q) (hp : Sz 4000 p) (hq : Sz 4000 q) (h0 : q ≠ 0) : run (n + 4) 47 [rD p, d] st = .ok (rD (p / q)) st := by
  have hz : q.num ≠ 0 := fun z => h0 (Rat.num_eq_zero.mp z)
  have hz2 : (q.num == 0) = false := by simpa using hz
  have hd : (p.den : Int) * q.num ≠ 0 := Int.mul_ne_zero (Rat.den_ne' p) hz
  have e : p / q = Rat.divInt (p.num * q.den) (p.den * q.num) := by
    rw [Rat.div_def, Rat.inv_def]
    conv => lhs; rw [← Rat.num_divInt_den p]
    rw [Rat.divInt_mul_divInt]
  have er := s_rof n st h
  rw [e, run_47]
  refine fnD_rt0 ?_ (noRef_rD _ _)
  simp [-Rat.divInt_ofNat, B_47, startE, er, fd_top, fd_bottom, hz2, ib_mul, hp.num.ok hq.den (by decide), hp.den.ok hq.num (by decide), s_mk (n + 1) _ _ _ hd ((hp.den.mul hq.num).mono (by decide))]
theorem b_fdivN {d : D} {q : Rat} (h : IsN d q) (hp : Sz 4000 p) (hq : Sz 4000 q) (h0 : q ≠ 0) (hr : Sz 4000 (p / q)) : binD T (run (n + 5)) .FloorDiv (rD p) d st = .ok (.int (fl (p / q))) st := by
  have key : run (n + 5) 38 [rD p, d] st = .ok (.int (fl (p / q))) st := by
    rw [run_38]
    refine fnD_rt0 ?_ (by simp)
    have h1 := s_overN n st h hp hq h0
    have h2 := s_floor (n + 3) (p := p / q) st hr
    have h3 := s_isnumN (n + 3) h st
    simp [B_38, startE, h3, hm_over, hm_floor, h1, h2]
  rcases h with rfl | ⟨i, rfl, rfl⟩
  · exact (bin_own (f := 38) st rfl (by decide)).trans key
  · exact (bin_oi (f := 38) st rfl (by decide)).trans key
theorem b_modN {d : D} {q : Rat} (h : IsN d q) (hp : Sz 4000 p) (hq : Sz 4000 q) (h0 : q ≠ 0) (hr : Sz 4000 (p / q)) (ht : Nb 4000 (fl (p / q))) (hm : Sz 4000 ((fl (p / q) : Rat) * q)) : binD T (run (n + 5)) .Mod (rD p) d st = .ok (rD (p - (fl (p / q) : Rat) * q)) st := by
  have key : run (n + 5) 40 [rD p, d] st = .ok (rD (p - (fl (p / q) : Rat) * q)) st := by
    rw [run_40]
    refine fnD_rt0 ?_ (noRef_rD _ _)
    have h1 := s_overN n st h hp hq h0
    have h2 := s_floor (n + 3) (p := p / q) st hr
    have h3 := s_isnumN (n + 3) h st
    have h4 := s_rof (n + 1) st h
    have h5 := b_rmul (n + 1) q (fl (p / q)) st hq ht
    have h6 := b_sub (n + 1) p ((fl (p / q) : Rat) * q) st hp hm
    simp [B_40, startE, h3, h4, hm_over, hm_floor, h1, h2, h5, h6]
  rcases h with rfl | ⟨i, rfl, rfl⟩
  · exact (bin_own (f := 40) st rfl (by decide)).trans key
  · exact (bin_oi (f := 40) st rfl (by decide)).trans key
theorem b_rfdiv (j : Int) (hp : Sz 4000 p) (hj : Nb 4000 j) (h0 : p ≠ 0) (hr : Sz 4000 ((j : Rat) / p)) : binD T (run (n + 5)) .FloorDiv (.int j) (rD p) st = .ok (.int (fl ((j : Rat) / p))) st := by
  refine (bin_io st (f := 39) (g := 38) rfl rfl rfl).trans ?_
  show run (n + 5) 39 [rD p, .int j] st = _
  rw [run_39]
  refine fnD_rt0 ?_ (by simp)
  have h1 := s_overN n st (p := (j : Rat)) (.rD p) (.int hj (by decide)) hp h0
  have h2 := s_floor (n + 3) (p := (j : Rat) / p) st hr
  have h3 := s_isnum_int (n + 3) j st
  have h4 := s_ratio_of_int (n + 1) j st
  simp [-Rat.num_intCast, -Rat.den_intCast, B_39, startE, h3, h4, hm_over, hm_floor, h1, h2]
theorem b_rmod (j : Int) (hp : Sz 4000 p) (hj : Nb 4000 j) (h0 : p ≠ 0) (hr : Sz 4000 ((j : Rat) / p)) (ht : Nb 4000 (fl ((j : Rat) / p))) (hm : Sz 4000 ((fl ((j : Rat) / p) : Rat) * p)) : binD T (run (n + 5)) .Mod (.int j) (rD p) st = .ok (rD ((j : Rat) - (fl ((j : Rat) / p) : Rat) * p)) st := by
  refine (bin_io st (f := 41) (g := 40) rfl rfl rfl).trans ?_
  show run (n + 5) 41 [rD p, .int j] st = _
  rw [run_41]
  refine fnD_rt0 ?_ (noRef_rD _ _)
  have h1 := s_overN n st (p := (j : Rat)) (.rD p) (.int hj (by decide)) hp h0
  have h2 := s_floor (n + 3) (p := (j : Rat) / p) st hr
  have h3 := s_isnum_int (n + 3) j st
  have h4 := s_ratio_of_int (n + 1) j st
  have h5 := b_rmul (n + 1) p (fl ((j : Rat) / p)) st hp ht
  have h6 := b_rsub (n + 1) st j hm hj
  simp [-Rat.num_intCast, -Rat.den_intCast, B_41, startE, h3, h4, hm_over, hm_floor, h1, h2, h5, h6]
theorem s_str (hn : Nb 1900 p.num) (hd : Nb 1900 (p.den : Int)) : bStrO T (run (n + 2)) [rD p] st = .ok (.str (if p.den = 1 then toString p.num else Str.empty ++ toString p.num ++ "/" ++ toString (p.den : Int))) st := by
  have l1 : p.num.natAbs.log2 < 1920 := log2_lt (hn.mono (b' := 1920) (by decide)) (by decide)
  have l2 : ((p.den : Int)).natAbs.log2 < 1920 := log2_lt (hd.mono (b' := 1920) (by decide)) (by decide)
  have key : run (n + 2) 46 [rD p] st = .ok (.str (if p.den = 1 then toString p.num else Str.empty ++ toString p.num ++ "/" ++ toString (p.den : Int))) st := by
    rw [run_46]
    refine fnD_rt0 ?_ (by simp)
    have f1 : ∀ st, fmtD (.int p.num) st = .ok (.str (toString p.num)) st := fun st => if_pos l1
    have f2 : ∀ st, fmtD (.int (p.den : Int)) st = .ok (.str (toString (p.den : Int))) st := fun st => if_pos l2
    have k1 : (Str.ofString (toString p.num)).length ≤ 1921 := int_text_len_1921 l1
    have k2 : (Str.ofString (toString (p.den : Int))).length ≤ 1921 := int_text_len_1921 l2
    generalize hA : Str.ofString (toString p.num) = A at *
    generalize hB : Str.ofString (toString (p.den : Int)) = B at *
    by_cases h : p.den = 1
    · have hb : (((p.den : Int) == 1) : Bool) = true := by simp [h]
      rw [if_pos h]
      simp [B_46, startE, fd_top, fd_bottom, hb, ap_xFmt, f1]
    · have hb : (((p.den : Int) == 1) : Bool) = false := by
        have : ¬ ((p.den : Int) = 1) := by omega
        simpa using this
      rw [if_neg h]
      have z1 : (Str.empty ++ A).length ≤ sizeLine := by rw [len_app, sizeLine_eq]; show 0 + _ ≤ _; omega
      have z2 : (Str.empty ++ A ++ ("/" : Str)).length ≤ sizeLine := by rw [len_app, len_app, sizeLine_eq]; show 0 + _ + 1 ≤ _; omega
      have z3 : (Str.empty ++ A ++ ("/" : Str) ++ B).length ≤ sizeLine := by rw [len_app, len_app, len_app, sizeLine_eq]; show 0 + _ + 1 + _ ≤ _; omega
      have j1 : ∀ f2 f3 ρ st, js3a f2 f3 ρ (.str A) st = (f2 ρ st).bind (js3b f3 ρ A) := fun _ _ _ _ => if_pos z1
      have j2 : ∀ f3 ρ st, js3b f3 ρ A (.str "/") st = (f3 ρ st).bind (js3c A "/") := fun _ _ _ => if_pos z2
      have j3 : ∀ st, js3c A "/" (.str B) st = .ok (.str (Str.empty ++ A ++ "/" ++ B)) st := fun _ => if_pos z3
      simp [B_46, startE, fd_top, fd_bottom, hb, ap_xFmt, ap_xJs3, f1, f2, j1, j2, j3]
  show (callD T (run (n + 2)) 46 [rD p] st).bind _ = _
  show (run (n + 2) 46 [rD p] st).bind _ = _
  rw [key]
  rfl
end
end G08
namespace G08
open PySem PySem.Spec PyProof.Rows L2 Gm
theorem cast1 : ((1 : Int) : Rat) = 1 := rfl
theorem div_lt' {i j S : Int} (hS : 0 < S) (h : i < j) : (i : Rat) / S < (j : Rat) / S := by
  have h1 : (0 : Rat) < S := Rat.intCast_pos.mpr hS
  have h2 : (i : Rat) < j := Rat.intCast_lt_intCast.mpr h
  rw [Rat.div_lt_iff h1]
  have e : (j : Rat) / S * S = j := Rat.div_mul_cancel (fun z => Rat.lt_irrefl (z ▸ h1))
  rw [e]
  exact h2
theorem fl_bd (q : Rat) : (fl q : Rat) ≤ q ∧ q < (fl q : Rat) + 1 := by
  have hd : (0 : Int) < (q.den : Int) := Int.natCast_pos.mpr q.den_pos
  have h1 := Int.fmod_def q.num q.den
  have h2 := Int.fmod_nonneg_of_pos q.num hd
  have h3 := Int.fmod_lt_of_pos q.num hd
  have e : q = (q.num : Rat) / ((q.den : Int) : Rat) := by
    have h := Rat.num_divInt_den q
    rw [Rat.divInt_eq_div] at h
    exact h.symm
  have g : (0 : Rat) < ((q.den : Int) : Rat) := Rat.intCast_lt_intCast.mpr hd
  have k1 : q.den * fl q ≤ q.num := by unfold fl; omega
  have k2 : q.num < q.den * (fl q + 1) := by unfold fl; rw [Int.mul_add]; omega
  have k1' := Rat.intCast_le_intCast.mpr k1
  have k2' := Rat.intCast_lt_intCast.mpr k2
  rw [Rat.intCast_mul] at k1' k2'
  rw [Rat.intCast_add, cast1] at k2'
  generalize fl q = f at *
  rw [e]
  generalize ((q.den : Int) : Rat) = d at *
  generalize (q.num : Rat) = m at *
  have hd0 : d ≠ 0 := fun z => by rw [z] at g; exact absurd g (by decide)
  have e1 : m / d * d = m := by grind
  constructor
  · refine Rat.le_of_mul_le_mul_right ?_ g
    rw [e1, Rat.mul_comm]
    exact k1'
  · refine Rat.lt_of_mul_lt_mul_right ?_ (Rat.le_of_lt g)
    rw [e1, Rat.mul_comm]
    exact k2'
theorem q0 {o : Int} (ho : o ≠ 0) : (o : Rat) ≠ 0 := fun h => ho (Rat.intCast_eq_zero_iff.mp h)
theorem ov_lt {a b o : Int} (ho : 0 < o) : ((a : Rat) / o < (b : Rat) / o) ↔ a < b := by
  constructor
  · intro h
    rcases Int.lt_or_le a b with k | k
    · exact k
    · exfalso
      rcases Int.lt_or_eq_of_le k with k | k
      · exact Rat.not_lt.mpr (Rat.le_of_lt (div_lt' ho k)) h
      · rw [k] at h
        exact Rat.lt_irrefl h
  · exact div_lt' ho
theorem ov_inj {a b o : Int} (ho : o ≠ 0) : ((a : Rat) / o = (b : Rat) / o) ↔ a = b := by
  have h1 := q0 ho
  constructor
  · intro h
    have : (a : Rat) = (b : Rat) := by
      generalize (a : Rat) = a at *
      generalize (b : Rat) = b at *
      generalize (o : Rat) = o at *
      grind
    exact Rat.intCast_inj.mp this
  · rintro rfl; rfl
theorem fl_int {q : Rat} {i : Int} (h1 : (i : Rat) ≤ q) (h2 : q < (i : Rat) + 1) : fl q = i := by
  obtain ⟨g1, g2⟩ := fl_bd q
  have a1 : ((fl q : Int) : Rat) < ((i + 1 : Int) : Rat) := by
    rw [Rat.intCast_add, cast1]
    grind
  have a2 : ((i : Int) : Rat) < ((fl q + 1 : Int) : Rat) := by
    rw [Rat.intCast_add, cast1]
    grind
  have b1 := Rat.intCast_lt_intCast.mp a1
  have b2 := Rat.intCast_lt_intCast.mp a2
  omega
end G08
namespace G08
open PySem PySem.Spec PyProof.Rows L2 Gm
section
variable (n d m e i : Int)
theorem f_scale (k : Int) (hk : k ≠ 0) (hd : d ≠ 0) : (n : Rat) / d = ((n * k : Int) : Rat) / ((d * k : Int) : Rat) := by
  have h1 := q0 hk
  have h2 := q0 hd
  rw [Rat.intCast_mul, Rat.intCast_mul]
  generalize (n : Rat) = n at *
  generalize (d : Rat) = d at *
  generalize (k : Rat) = k at *
  grind
theorem qfa (hd : d ≠ 0) (he : e ≠ 0) : (n : Rat) / d + (m : Rat) / e = ((n * e + m * d : Int) : Rat) / ((d * e : Int) : Rat) := by
  have h1 := q0 hd
  have h2 := q0 he
  rw [Rat.intCast_add, Rat.intCast_mul, Rat.intCast_mul, Rat.intCast_mul]
  generalize (n : Rat) = n at *
  generalize (d : Rat) = d at *
  generalize (m : Rat) = m at *
  generalize (e : Rat) = e at *
  grind
theorem qfs (hd : d ≠ 0) (he : e ≠ 0) : (n : Rat) / d - (m : Rat) / e = ((n * e - m * d : Int) : Rat) / ((d * e : Int) : Rat) := by
  have h1 := q0 hd
  have h2 := q0 he
  rw [Rat.intCast_sub, Rat.intCast_mul, Rat.intCast_mul, Rat.intCast_mul]
  generalize (n : Rat) = n at *
  generalize (d : Rat) = d at *
  generalize (m : Rat) = m at *
  generalize (e : Rat) = e at *
  grind
theorem qfm (hd : d ≠ 0) (he : e ≠ 0) : (n : Rat) / d * ((m : Rat) / e) = ((n * m : Int) : Rat) / ((d * e : Int) : Rat) := by
  have h1 := q0 hd
  have h2 := q0 he
  rw [Rat.intCast_mul, Rat.intCast_mul]
  generalize (n : Rat) = n at *
  generalize (d : Rat) = d at *
  generalize (m : Rat) = m at *
  generalize (e : Rat) = e at *
  have e1 : (d * e)⁻¹ = d⁻¹ * e⁻¹ := by grind
  rw [Rat.div_def, Rat.div_def, Rat.div_def, e1]
  grind
theorem fd2 (hd : d ≠ 0) (hm : m ≠ 0) (he : e ≠ 0) : (n : Rat) / d / ((m : Rat) / e) = ((n * e : Int) : Rat) / ((d * m : Int) : Rat) := by
  have h1 := q0 hd
  have h2 := q0 he
  have h3 := q0 hm
  rw [Rat.intCast_mul, Rat.intCast_mul]
  generalize (n : Rat) = n at *
  generalize (d : Rat) = d at *
  generalize (m : Rat) = m at *
  generalize (e : Rat) = e at *
  have e1 : (d * m)⁻¹ = d⁻¹ * m⁻¹ := by grind
  have e2 : (m / e)⁻¹ = e * m⁻¹ := by grind
  rw [Rat.div_def (n / d), e2, Rat.div_def, Rat.div_def, e1]
  grind
theorem fng : -((n : Rat) / d) = ((-n : Int) : Rat) / d := by
  rw [Rat.intCast_neg]
  grind
theorem f_one : (i : Rat) = (i : Rat) / ((1 : Int) : Rat) := by
  have h : ((1 : Int) : Rat) = 1 := rfl
  rw [h]
  grind
theorem fai (hd : d ≠ 0) : (n : Rat) / d + (i : Rat) = ((n + i * d : Int) : Rat) / d := by
  have h1 := q0 hd
  rw [Rat.intCast_add, Rat.intCast_mul]
  generalize (n : Rat) = n at *
  generalize (d : Rat) = d at *
  generalize (i : Rat) = i at *
  grind
theorem fia (hd : d ≠ 0) : (i : Rat) + (n : Rat) / d = ((n + i * d : Int) : Rat) / d := by rw [Rat.add_comm, fai n d i hd]
theorem fsi (hd : d ≠ 0) : (n : Rat) / d - (i : Rat) = ((n - i * d : Int) : Rat) / d := by
  have h1 := q0 hd
  rw [Rat.intCast_sub, Rat.intCast_mul]
  generalize (n : Rat) = n at *
  generalize (d : Rat) = d at *
  generalize (i : Rat) = i at *
  grind
theorem fis (hd : d ≠ 0) : (i : Rat) - (n : Rat) / d = ((i * d - n : Int) : Rat) / d := by
  have h1 := q0 hd
  rw [Rat.intCast_sub, Rat.intCast_mul]
  generalize (n : Rat) = n at *
  generalize (d : Rat) = d at *
  generalize (i : Rat) = i at *
  grind
theorem fmi : (n : Rat) / d * (i : Rat) = ((n * i : Int) : Rat) / d := by
  rw [Rat.intCast_mul]
  grind
theorem fim : (i : Rat) * ((n : Rat) / d) = ((n * i : Int) : Rat) / d := by rw [Rat.mul_comm, fmi]
theorem fdi (hd : d ≠ 0) (hi : i ≠ 0) : (n : Rat) / d / (i : Rat) = (n : Rat) / ((d * i : Int) : Rat) := by
  have h1 := q0 hd
  have h2 := q0 hi
  rw [Rat.intCast_mul]
  generalize (n : Rat) = n at *
  generalize (d : Rat) = d at *
  generalize (i : Rat) = i at *
  have e1 : (d * i)⁻¹ = d⁻¹ * i⁻¹ := by grind
  rw [Rat.div_def, Rat.div_def, Rat.div_def, e1]
  grind
theorem fid (hd : d ≠ 0) (hn : n ≠ 0) : (i : Rat) / ((n : Rat) / d) = ((i * d : Int) : Rat) / n := by
  have h1 := q0 hd
  have h2 := q0 hn
  rw [Rat.intCast_mul]
  generalize (n : Rat) = n at *
  generalize (d : Rat) = d at *
  generalize (i : Rat) = i at *
  have e2 : (n / d)⁻¹ = d * n⁻¹ := by grind
  rw [Rat.div_def i, e2, Rat.div_def]
  grind
end
section
variable {n d m e i : Int}
theorem f_lt (hd : 0 < d) (he : 0 < e) : ((n : Rat) / d < (m : Rat) / e) ↔ n * e < m * d := by
  rw [f_scale n d e (by omega) (by omega), f_scale m e d (by omega) (by omega), Int.mul_comm e d, ov_lt (Int.mul_pos hd he)]
theorem f_le (hd : 0 < d) (he : 0 < e) : ((n : Rat) / d ≤ (m : Rat) / e) ↔ n * e ≤ m * d := by
  rw [← Rat.not_lt, f_lt he hd]
  omega
theorem f_eq (hd : 0 < d) (he : 0 < e) : ((n : Rat) / d = (m : Rat) / e) ↔ n * e = m * d := by
  have hk : d * e ≠ 0 := Int.mul_ne_zero (by omega) (by omega)
  rw [f_scale n d e (by omega) (by omega), f_scale m e d (by omega) (by omega), Int.mul_comm e d, ov_inj hk]
theorem fi_lt (hd : 0 < d) : ((n : Rat) / d < (i : Rat)) ↔ n < i * d := by
  rw [f_one i, f_lt hd (by decide), Int.mul_one]
theorem fi_le (hd : 0 < d) : ((n : Rat) / d ≤ (i : Rat)) ↔ n ≤ i * d := by
  rw [f_one i, f_le hd (by decide), Int.mul_one]
theorem fi_gt (hd : 0 < d) : ((i : Rat) < (n : Rat) / d) ↔ i * d < n := by
  rw [f_one i, f_lt (by decide) hd, Int.mul_one]
theorem fi_ge (hd : 0 < d) : ((i : Rat) ≤ (n : Rat) / d) ↔ i * d ≤ n := by
  rw [f_one i, f_le (by decide) hd, Int.mul_one]
theorem fi_eq (hd : 0 < d) : ((n : Rat) / d = (i : Rat)) ↔ n = i * d := by
  rw [f_one i, f_eq hd (by decide), Int.mul_one]
theorem fl_pos (hd : 0 < d) : fl ((n : Rat) / d) = n.fdiv d := by
  have h1 := Int.fmod_add_mul_fdiv n d
  have h2 := Int.fmod_nonneg_of_pos n hd
  have h3 := Int.fmod_lt_of_pos n hd
  refine fl_int ?_ ?_
  · rw [fi_ge hd, Int.mul_comm]
    omega
  · have e : ((n.fdiv d : Int) : Rat) + 1 = ((n.fdiv d + 1 : Int) : Rat) := by rw [Rat.intCast_add]; rfl
    rw [e, fi_lt hd, Int.mul_comm, Int.mul_add, Int.mul_one]
    omega
theorem fl_div (hd : d ≠ 0) : fl ((n : Rat) / d) = n.fdiv d := by
  rcases Int.lt_or_gt_of_ne hd with h | h
  · have e : (n : Rat) / d = ((-n : Int) : Rat) / ((-d : Int) : Rat) := by
      have := f_scale n d (-1) (by decide) hd
      rw [this]
      congr 2 <;> congr 1 <;> omega
    rw [e, fl_pos (by omega), Int.neg_fdiv_neg]
  · exact fl_pos h
end
theorem pw_ne {y : Rat} (hy : y ≠ 0) : ∀ k : Nat, y ^ k ≠ 0
  | 0 => by rw [Rat.pow_zero]; decide
  | k + 1 => by
    have := pw_ne hy k
    rw [Rat.pow_succ]
    generalize y ^ k = b at *
    grind
theorem fpow (x y : Rat) (hy : y ≠ 0) : ∀ k : Nat, x ^ k / y ^ k = (x / y) ^ k
  | 0 => by
    rw [Rat.pow_zero, Rat.pow_zero, Rat.pow_zero]
    grind
  | k + 1 => by
    rw [Rat.pow_succ, Rat.pow_succ, Rat.pow_succ, ← fpow x y hy k]
    have hk : y ^ k ≠ 0 := pw_ne hy k
    generalize x ^ k = a at *
    generalize y ^ k = b at *
    have e1 : (b * y)⁻¹ = b⁻¹ * y⁻¹ := by grind
    rw [Rat.div_def, e1, Rat.div_def, Rat.div_def]
    grind
end G08
namespace G08
open PySem PySem.Spec PyProof.Rows L2 Gm
theorem fdiv_nat (a b : Nat) : (a : Int).fdiv (b : Int) = ((a / b : Nat) : Int) := by
  rw [Int.fdiv_eq_ediv_of_nonneg _ (by omega)]
  exact (Int.natCast_ediv a b).symm
end G08
namespace G08
open PySem PySem.Spec PyProof.Rows L2 Gm
noncomputable def rsB (c : Fn) : Fs := (sSeq (sIf (tOf (truD T c) (xBin (binD T c .Mod) (xVar 1) (xK (.int 2)))) (sAsg (xBin (binD T c .Mult) (xVar 2) (xVar 0)) (gNm 2)) sNx) (sSeq (sAsg (xBin (binD T c .Mult) (xVar 0) (xVar 0)) (gNm 0)) (sAsg (xBin (binD T c .FloorDiv) (xVar 1) (xK (.int 2))) (gNm 1))))
theorem fm2 (k : Nat) : ((k : Int).fmod 2) = ((k % 2 : Nat) : Int) := by
  rw [Int.fmod_eq_emod_of_nonneg _ (by decide)]
  exact (Int.natCast_emod k 2).symm
theorem rs_step (c : Fn) (k : Nat) (x pr : Int) (m1 : IntMulOk pr x) (m2 : IntMulOk x x) (st : Store) : rsB c [some (.int x), some (.int k), some (.int pr)] st = .nx [some (.int (x * x)), some (.int ((k / 2 : Nat) : Int)), some (.int (if k % 2 = 1 then pr * x else pr))] st := by
  have e1 : intBin .Mod (k : Int) 2 st = .ok (.int ((k % 2 : Nat) : Int)) st := by rw [ib_mod _ (by decide), fm2]
  have e2 : intBin .FloorDiv (k : Int) 2 st = .ok (.int ((k / 2 : Nat) : Int)) st := by
    rw [ib_fdiv _ (by decide)]
    congr 2
    exact fdiv_nat k 2
  rcases Nat.mod_two_eq_zero_or_one k with h | h
  · rw [h] at e1
    simp [rsB, e1, e2, ib_mul _ m2, h]
  · rw [h] at e1
    simp [rsB, e1, e2, ib_mul _ m1, ib_mul _ m2, h]
theorem sqp (x : Int) : ∀ j : Nat, (x * x) ^ j = x ^ (2 * j)
  | 0 => by simp
  | j + 1 => by
    rw [Int.pow_succ, sqp x j, show 2 * (j + 1) = 2 * j + 1 + 1 by omega, Int.pow_succ, Int.pow_succ, Int.mul_assoc]
theorem ra_loop (c : Fn) (st : Store) : ∀ (k : Nat) (x pr : Int) (b e : Nat), Nb b x → Nb e pr → e + 3 * b * k ≤ 400000 → ∃ m x', whileN (tOf (truD T c) (xVar 1)) (rsB c) m [some (.int x), some (.int k), some (.int pr)] st = .nx [some (.int x'), some (.int 0), some (.int (pr * x ^ k))] st := by
  intro k
  induction k using Nat.strongRecOn with
  | ind k ih =>
    intro x pr b e hx hp hb
    by_cases hk : k = 0
    · subst hk
      refine ⟨1, x, ?_⟩
      unfold whileN
      simp
    · have hbk : b ≤ b * k := Nat.le_mul_of_pos_right b (by omega)
      have hb3 : 3 * b * k = 3 * (b * k) := Nat.mul_assoc 3 b k
      have hxx : Nb (2 * b) (x * x) := by
        have := hx.mul hx
        rwa [← Nat.two_mul] at this
      have h2 : 2 * b * (k / 2) = b * (2 * (k / 2)) := by rw [Nat.mul_comm 2 b, Nat.mul_assoc]
      have st1 := rs_step c k x pr (hp.ok hx (by omega)) (hx.ok hx (by omega)) st
      have hlt : k / 2 < k := by omega
      have hz : ((k : Int) != 0) = true := by
        have : ¬ ((k : Int) = 0) := by omega
        simpa using hk
      obtain ⟨m, x', hm⟩ : ∃ m x', whileN (tOf (truD T c) (xVar 1)) (rsB c) m [some (.int (x * x)), some (.int ((k / 2 : Nat) : Int)), some (.int (if k % 2 = 1 then pr * x else pr))] st = .nx [some (.int x'), some (.int 0), some (.int (pr * x ^ k))] st := by
        rcases Nat.mod_two_eq_zero_or_one k with h | h
        · have hk2 : 2 * (k / 2) = k := by omega
          rw [if_neg (by omega)]
          obtain ⟨m, x', hm⟩ := ih (k / 2) hlt (x * x) pr (2 * b) e hxx hp (by rw [Nat.mul_assoc 3, h2, hk2]; omega)
          refine ⟨m, x', ?_⟩
          have e1 : (x * x) ^ (k / 2) = x ^ k := by
            rw [sqp, hk2]
          rw [e1] at hm
          exact hm
        · have hk2 : 2 * (k / 2) + 1 = k := by omega
          rw [if_pos h]
          have hpx : Nb (e + b) (pr * x) := hp.mul hx
          have hq : b * (2 * (k / 2)) + b = b * k := by
            have := Nat.mul_succ b (2 * (k / 2))
            rw [show (2 * (k / 2)).succ = k from hk2] at this
            omega
          obtain ⟨m, x', hm⟩ := ih (k / 2) hlt (x * x) (pr * x) (2 * b) (e + b) hxx hpx (by rw [Nat.mul_assoc 3, h2]; omega)
          refine ⟨m, x', ?_⟩
          have e1 : pr * x * (x * x) ^ (k / 2) = pr * x ^ k := by
            rw [sqp, Int.mul_assoc, Int.mul_comm x, ← Int.pow_succ, show (2 * (k / 2)).succ = k from hk2]
          rw [e1] at hm
          exact hm
      refine ⟨m + 1, x', ?_⟩
      have ht : (tOf (truD T c) (xVar 1)) [some (.int x), some (.int k), some (.int pr)] st = .ok true st := by
        simp [hk]
      unfold whileN
      rw [ht, Res.toS_ok]
      simp only [if_true]
      rw [st1]
      exact hm
theorem rs_eq (c : Fn) : B_2 c = sSeq (sAsg (xK (.int 1)) (gNm 2)) (sSeq (sWhile (tOf (truD T c) (xVar 1)) (rsB c)) (sRet (xVar 2))) := rfl
theorem s_raised (n k : Nat) (x : Int) (b : Nat) (st : Store) (hx : Nb b x) (hb : 1 + 3 * b * k ≤ 400000) : run (n + 1) 2 [.int x, .int k] st = .ok (.int (x ^ k)) st := by
  obtain ⟨m, x', hm⟩ := ra_loop (run n) st k x 1 b 1 hx (by unfold Nb; decide) hb
  have hw := sWhile_eq m hm (by simp)
  rw [Int.one_mul] at hw
  rw [run_2, rs_eq]
  refine fnD_rt0 ?_ rfl
  refine seq_step (ρ' := [some (.int x), some (.int k), some (.int 1)]) (st' := st) (by simp [startE]) (seq_step hw ?_)
  simp
theorem nb_pow {x : Int} {b : Nat} (hx : Nb b x) : ∀ k : Nat, Nb (b * k + 1) (x ^ k)
  | 0 => by unfold Nb; simp
  | k + 1 => by
    have h := (nb_pow hx k).mul hx
    rw [Int.pow_succ]
    refine h.mono ?_
    rw [Nat.mul_succ]
    omega
theorem b_pow {p : Rat} (n k : Nat) (st : Store) (hp : Sz 300 p) (hk : k ≤ 7) : binD T (run (n + 3)) .Pow (rD p) (.int k) st = .ok (rD (p ^ k)) st := by
  have hb : 1 + 3 * 300 * k ≤ 400000 := by omega
  have e1 := s_raised (n + 1) k p.num 300 st hp.num hb
  have e2 := s_raised (n + 1) k (p.den : Int) 300 st hp.den hb
  have hd : ((p.den : Int) ^ k) ≠ 0 := Int.pow_ne_zero (Rat.den_ne' p)
  have e3 := s_mk n (p.num ^ k) ((p.den : Int) ^ k) st hd ((nb_pow hp.den k).mono (by omega))
  have e : Rat.divInt (p.num ^ k) ((p.den : Int) ^ k) = p ^ k := by
    have q : p = (p.num : Rat) / ((p.den : Int) : Rat) := by rw [← Rat.divInt_eq_div, Rat.num_divInt_den]
    rw [Rat.divInt_eq_div, Rat.intCast_pow, Rat.intCast_pow, fpow _ _ (q0 (Rat.den_ne' p)), ← q]
  rw [e] at e3
  refine (bin_oi (f := 42) st rfl (by decide)).trans ?_
  show run (n + 3) 42 [rD p, .int k] st = _
  rw [run_42]
  refine fnD_rt0 ?_ (noRef_rD _ _)
  simp [B_42, startE, fd_top, fd_bottom, e1, e2, e3]
theorem lp_loop (c : Fn) (x : Int) (b : Nat) (hx : Nb b x) (o1 : Option D) (st : Store) : ∀ (ds : List D) (f : Int) (e : Nat) (o3 : Option D), Nb e f → e + b * ds.length ≤ 400000 →
    ∃ o3', forI (fun _ => True) (gNm 3) (sAsg (xBin (binD T c .Mult) (xVar 2) (xVar 0)) (gNm 2)) ds [some (.int x), o1, some (.int f), o3] st = .nx [some (.int x), o1, some (.int (f * x ^ ds.length)), o3'] st
  | [], f, e, o3, _, _ => ⟨o3, by rw [forI_end trivial]; simp⟩
  | d :: ds, f, e, o3, hf, hb => by
    rw [List.length_cons, Nat.mul_succ] at hb
    obtain ⟨o3', h⟩ := lp_loop c x b hx o1 st ds (f * x) (e + b) (some d) (hf.mul hx) (by omega)
    refine ⟨o3', ?_⟩
    have hs : (sAsg (xBin (binD T c .Mult) (xVar 2) (xVar 0)) (gNm 2)) [some (.int x), o1, some (.int f), some d] st = .nx [some (.int x), o1, some (.int (f * x)), some d] st := by
      simp [ib_mul _ (hf.ok hx (by omega))]
    rw [forI_step trivial rfl hs, h, List.length_cons, Int.pow_succ, Int.mul_assoc, Int.mul_comm x]
theorem s_lpower (n k : Nat) (x : Int) (b : Nat) (st : Store) (hx : Nb b x) (hb : 1 + b * k ≤ 400000) (hk : k < 100) : run (n + 1) 13 [.int x, .int k] st = .ok (.int (x ^ k)) st := by
  obtain ⟨o3', h⟩ := lp_loop (run n) x b hx (some (.int k)) st (Gm.intsFrom 0 (k : Int).toNat) 1 1 none (by unfold Nb; decide) (by rw [ints_len, Int.toNat_natCast]; exact hb)
  rw [ints_len, Int.toNat_natCast, Int.one_mul] at h
  have e : B_13 (run n) = sSeq (sAsg (xK (.int 1)) (gNm 2)) (sSeq (sFor (iRng (aCons (xVar 1) aNil)) (gNm 3) (sAsg (xBin (binD T (run n) .Mult) (xVar 2) (xVar 0)) (gNm 2))) (sRet (xVar 2))) := rfl
  rw [run_13, e]
  refine fnD_rt0 ?_ rfl
  refine seq_step (ρ' := [some (.int x), some (.int k), some (.int 1), none]) (st' := st) (by simp [startE]) (seq_step (ρ' := [some (.int x), some (.int k), some (.int (x ^ k)), o3']) (st' := st) ?_ (by simp))
  rw [for_of (rngI (f := xVar 1) (b := (k : Int)) rfl (by omega) (by omega))]
  exact h
end G08
namespace G08
open PySem PySem.Spec PyProof.Rows L2 Gm
def prD (p : Int × Int) : D := .tup [.int p.1, .int p.2]
theorem pr_0 (p : Int × Int) (st : Store) : subD (prD p) (.int 0) st = .ok (.int p.1) st := by
  unfold prD
  simp
theorem pr_1 (p : Int × Int) (st : Store) : subD (prD p) (.int 1) st = .ok (.int p.2) st := by
  unfold prD
  simp
theorem noRef_prD (n : Nat) (p : Int × Int) : noRef n (prD p) = true := by
  unfold prD
  simp
end G08
namespace G08
open PySem PySem.Spec PyProof.Rows L2 Gm
theorem pow10_6 (st : Store) : intBin .Pow 10 6 st = .ok (.int 1000000) st := rfl
theorem ga_run (i j : Int) (st : Store) : (sPar 0 1 (aCons (xBi bAbs (aCons (xVar 0) aNil)) (aCons (xBi bAbs (aCons (xVar 1) aNil)) aNil))) (startE 3 [.int i, .int j]) st = .nx [some (.int ((i.natAbs : Nat) : Int)), some (.int ((j.natAbs : Nat) : Int)), none] st := by
  simp [startE, abs_if]
theorem rng6 (c : Fn) (ρ : Ev) (st : Store) : iRng (aCons (xBin (binD T c .Pow) (xK (.int 10)) (xK (.int 6))) aNil) ρ st = .ok (Gm.intsFrom 0 (1000000 : Int).toNat, fun _ => True) st :=
  rngI (by simp [pow10_6]) (by decide) (by decide)
noncomputable def glB (c : Fn) : Fs := (sSeq (sIf (tOf (truD T c) (xBin (eqB T c false) (xVar 1) (xK (.int 0)))) sBk sNx) (sPar 0 1 (aCons (xVar 1) (aCons (xBin (binD T c .Mod) (xBi bInt (aCons (xVar 0) aNil)) (xVar 1)) aNil))))
theorem gl_brk (c : Fn) (a : Int) (o : Option D) (st : Store) : glB c [some (.int a), some (.int 0), o] st = .bk [some (.int a), some (.int 0), o] st := by
  simp [glB]
theorem gl_step (c : Fn) (a b : Nat) (hb : b ≠ 0) (o : Option D) (st : Store) : glB c [some (.int a), some (.int b), o] st = .nx [some (.int b), some (.int ((a % b : Nat) : Int)), o] st := by
  have h1 : ((b : Int) == 0) = false := by simpa using hb
  have h2 : (b : Int) ≠ 0 := by omega
  have h3 := fm_nat (k := a) (n := b)
  simp [-Int.natCast_emod, glB, h1, ib_mod _ h2, h3]
theorem two_mod {r b : Nat} (h0 : 0 < r) (h : r < b) : 2 * (b % r) < b := by
  have h1 := Nat.mod_lt b h0
  have h2 := Nat.div_add_mod b r
  have h3 : 1 ≤ b / r := Nat.div_pos (Nat.le_of_lt h) h0
  have h4 : r * 1 ≤ r * (b / r) := Nat.mul_le_mul_left r h3
  omega
theorem gl_eq (c : Fn) : B_11 c = sSeq (sPar 0 1 (aCons (xBi bAbs (aCons (xVar 0) aNil)) (aCons (xBi bAbs (aCons (xVar 1) aNil)) aNil))) (sSeq (sFor (iRng (aCons (xBin (binD T c .Pow) (xK (.int 10)) (xK (.int 6))) aNil)) (gNm 2) (glB c)) (sRet (xVar 0))) := rfl
theorem s_whole_is (n : Nat) (i : Int) (st : Store) : run (n + 1) 14 [.int i, .int i] st = .ok (.bl true) st := by
  rw [run_14]
  refine fnD_rt0 ?_ (by simp)
  simp [B_14, startE]
theorem gl_loop (c : Fn) : ∀ (k a b : Nat) (ds : List D) (o2 : Option D) (st : Store), b < 2 ^ k → 2 * k + 1 ≤ ds.length → ∃ o2', forI (fun _ => True) (gNm 2) (glB c) ds [some (.int a), some (.int b), o2] st = .nx [some (.int ((Nat.gcd a b : Nat) : Int)), some (.int 0), o2'] st := by
  have zero : ∀ (a : Nat) (ds : List D) (o2 : Option D) (st : Store), 1 ≤ ds.length → ∃ o2', forI (fun _ => True) (gNm 2) (glB c) ds [some (.int a), some (.int ((0 : Nat) : Int)), o2] st = .nx [some (.int ((Nat.gcd a 0 : Nat) : Int)), some (.int 0), o2'] st := by
    intro a ds o2 st hl
    match ds, hl with
    | d :: ds, _ =>
      refine ⟨some d, ?_⟩
      rw [Nat.gcd_zero_right]
      exact forI_brk trivial rfl (gl_brk c a (some d) st)
  intro k
  induction k with
  | zero =>
    intro a b ds o2 st hb hl
    have : b = 0 := by simpa using hb
    subst this
    exact zero a ds o2 st (by omega)
  | succ k ih =>
    intro a b ds o2 st hb hl
    by_cases h0 : b = 0
    · subst h0
      exact zero a ds o2 st (by omega)
    · match ds, hl with
      | d :: d2 :: ds, hl =>
        by_cases h1 : a % b = 0
        · obtain ⟨o2', e⟩ := zero b (d2 :: ds) (some d) st (by simp)
          refine ⟨o2', ?_⟩
          rw [forI_step (ρ1 := [some (.int a), some (.int b), some d]) (st1 := st) trivial rfl (gl_step c a b h0 (some d) st), h1, e, Nat.gcd_comm a b, Nat.gcd_rec b a, h1, Nat.gcd_zero_right, Nat.gcd_zero_left]
        · have h2 := two_mod (Nat.pos_of_ne_zero h1) (Nat.mod_lt a (Nat.pos_of_ne_zero h0))
          rw [Nat.pow_succ] at hb
          obtain ⟨o2', e⟩ := ih (a % b) (b % (a % b)) ds (some d2) st (by omega) (by simp only [List.length_cons] at hl; omega)
          refine ⟨o2', ?_⟩
          rw [forI_step (ρ1 := [some (.int a), some (.int b), some d]) (st1 := st) trivial rfl (gl_step c a b h0 (some d) st), forI_step (ρ1 := [some (.int b), some (.int ((a % b : Nat) : Int)), some d2]) (st1 := st) trivial rfl (gl_step c b (a % b) h1 (some d2) st), e]
          have e1 : Nat.gcd (a % b) (b % (a % b)) = Nat.gcd a b := by
            rw [Nat.gcd_comm (a % b) (b % (a % b)), ← Nat.gcd_rec (a % b) b, ← Nat.gcd_rec b a, Nat.gcd_comm]
          rw [e1]
      | [d], hl => simp at hl
      | [], hl => simp at hl
theorem ri_run (c : Fn) (q : Rat) (t b : Int) (st : Store) (h1 : c 14 [.int q.den, .int q.den] st = .ok (.bl true) st) (h2 : c 14 [.int q.num, .int q.num] st = .ok (.bl true) st)
    (h3 : c 11 [.int q.num, .int q.den] st = .ok (.int 1) st) (m1 : IntMulOk q.num b) (m2 : IntMulOk t q.den) (he : q.num * b = t * q.den) :
    B_15 c (startE 3 [rD q, .int t, .int b]) st = .rt (.bl true) st := by
  have hp : ¬ ((q.den : Int) < 1) := by have := q.den_pos; omega
  have he' : (q.num * b == t * (q.den : Int)) = true := by simpa using he
  simp [B_15, startE, iso_rD, fd_top, fd_bottom, h1, h2, h3, hp, ib_mul _ m1, ib_mul _ m2, he']
section
variable {a b e : Int} {L : Rat × Rat → Prop} {x : Rat × Rat} {μ μ' : Rat} {k k' : Nat}
theorem rat_ne {S : Int} (h : S ≠ 0) : (S : Rat) ≠ 0 := fun z => h (Rat.intCast_eq_zero_iff.mp z)
end
theorem s_gcdL (n : Nat) (i j : Int) (st : Store) (hj : Nb 8000 j) : run (n + 1) 11 [.int i, .int j] st = .ok (.int (Int.gcd i j)) st := by
  obtain ⟨o2, e⟩ := gl_loop (run n) 8000 i.natAbs j.natAbs (Gm.intsFrom 0 (1000000 : Int).toNat) none st hj (by rw [ints_len]; decide)
  rw [run_11, gl_eq]
  refine fnD_rt0 (seq_step (ga_run i j st) (seq_step ((for_of (rng6 _ _ st)).trans e) rfl)) (by simp)
theorem extD {s e : Store} {m : Nat} {x : Cell} (h : s[m]? = some x) : (s ++ e)[m]? = some x := by
  rw [List.getElem?_append_left (List.getElem?_eq_some_iff.mp h).1]
  exact h
theorem iSeq_st {f : Fe} {ρ : Ev} {st st' : Store} {m : Nat} {ds : List D} (h : f ρ st = .ok (.ref m) st') (hm : st'[m]? = some (.lst ds)) : iSeq f ρ st = .ok (ds, fun s => s[m]? = some (.lst ds)) st' := by
  unfold iSeq
  rw [h, Res.bind_ok]
  simp only [hm]
theorem sz_div {m : Nat} {i S : Int} (hi : Nb m i) (hS : Nb m S) (h0 : S ≠ 0) : Sz m ((i : Rat) / S) := by
  rw [← Rat.divInt_eq_div]
  exact Sz.of hi hS h0
theorem num_over {x : Rat} {X o : Int} (ho : o ≠ 0) (h : x = (X : Rat) / o) : x.num * o = X * (x.den : Int) := by
  have e : x = (x.num : Rat) / ((x.den : Int) : Rat) := by rw [← Rat.divInt_eq_div, Rat.num_divInt_den]
  have d0 : ((x.den : Int) : Rat) ≠ 0 := fun z => Rat.den_ne' x (Rat.intCast_eq_zero_iff.mp z)
  have o0 := rat_ne ho
  have k : (x.num : Rat) * o = X * ((x.den : Int) : Rat) := by
    generalize ((x.den : Int) : Rat) = u at *
    generalize (x.num : Rat) = w at *
    have e2 : w / u = (X : Rat) / o := by rw [← e, h]
    have e3 : w = w / u * u := by grind
    have e4 : (X : Rat) = (X : Rat) / o * o := by grind
    rw [e3, e4, e2]
    grind
  rw [← Rat.intCast_mul, ← Rat.intCast_mul] at k
  exact Rat.intCast_inj.mp k
theorem s_ratio_is (n : Nat) (q : Rat) (t b : Int) (st : Store) (hb : b ≠ 0) (hq : Sz 8000 q) (nt : Nb 100000 t) (nb : Nb 100000 b) (h : q = (t : Rat) / b) : run (n + 2) 15 [rD q, .int t, .int b] st = .ok (.bl true) st := by
  have hg : Int.gcd q.num (q.den : Int) = 1 := q.reduced
  have h3 := s_gcdL n q.num (q.den : Int) st (by unfold Nb; exact hq.2)
  rw [hg] at h3
  have he : q.num * b = t * (q.den : Int) := by
    have e : q = (q.num : Rat) / ((q.den : Int) : Rat) := by rw [← Rat.divInt_eq_div, Rat.num_divInt_den]
    have d0 : ((q.den : Int) : Rat) ≠ 0 := fun z => Rat.den_ne' q (Rat.intCast_eq_zero_iff.mp z)
    have b0 : (b : Rat) ≠ 0 := fun z => hb (Rat.intCast_eq_zero_iff.mp z)
    rw [h] at e
    have h2 : (q.num : Rat) * b = t * ((q.den : Int) : Rat) := by
      rw [← h] at e
      have e2 := h
      rw [e] at e2
      generalize ((q.den : Int) : Rat) = u at *
      grind
    rw [← Rat.intCast_mul, ← Rat.intCast_mul] at h2
    exact Rat.intCast_inj.mp h2
  rw [run_15]
  exact fnD_rt0 (ri_run _ q t b st (s_whole_is n _ st) (s_whole_is n _ st) h3 (Nb.ok (b := 8000) hq.1 nb (by decide)) (nt.ok (b' := 8000) hq.2 (by decide)) he) (by simp)
theorem s_truth (n : Nat) (w : Bool) (st : Store) : run (n + 1) 12 [.bl w, .bl w] st = .ok (.bl true) st := by
  rw [run_12]
  refine fnD_rt0 ?_ (by simp)
  cases w <;> simp [B_12, startE]
theorem get2 (st e : Store) (a b : Cell) : (st ++ a :: b :: e)[st.length + 1]? = some b := by
  rw [List.getElem?_append_right (by omega), Nat.add_sub_cancel_left]
  rfl
end G08
namespace G08
open PySem PySem.Spec PyProof.Rows L2 Gm
noncomputable def sm1 (c : Fn) : Fs := (sAsg (xTup (aCons (xBin subD (xVar 0) (xK (.int 0))) (aCons (xBin subD (xVar 0) (xK (.int 1))) (aCons (xBin subD (xVar 1) (xK (.int 0))) (aCons (xBin subD (xVar 1) (xK (.int 1))) aNil))))) (gTp (gsCons (gNm 4) (gsCons (gNm 5) (gsCons (gNm 6) (gsCons (gNm 7) gsNil))))))
noncomputable def sm2 (c : Fn) : Fs := (sIf (tOr (tNot (tOf (truD T c) (xCall T c 15 (aCons (xBin (binD T c .Add) (xVar 2) (xVar 3)) (aCons (xBin (binD T c .Add) (xBin (binD T c .Mult) (xVar 4) (xVar 7)) (xBin (binD T c .Mult) (xVar 6) (xVar 5))) (aCons (xBin (binD T c .Mult) (xVar 5) (xVar 7)) aNil)))))) (tOr (tNot (tOf (truD T c) (xCall T c 15 (aCons (xBin (binD T c .Sub) (xVar 2) (xVar 3)) (aCons (xBin (binD T c .Sub) (xBin (binD T c .Mult) (xVar 4) (xVar 7)) (xBin (binD T c .Mult) (xVar 6) (xVar 5))) (aCons (xBin (binD T c .Mult) (xVar 5) (xVar 7)) aNil)))))) (tNot (tOf (truD T c) (xCall T c 15 (aCons (xBin (binD T c .Mult) (xVar 2) (xVar 3)) (aCons (xBin (binD T c .Mult) (xVar 4) (xVar 6)) (aCons (xBin (binD T c .Mult) (xVar 5) (xVar 7)) aNil)))))))) (sRet (xK (.bl false))) sNx)
noncomputable def sm3 (c : Fn) : Fs := (sIf (tOr (tNot (tOf (truD T c) (xCall T c 15 (aCons (xUn (negD T c) (xVar 2)) (aCons (xUn (negD T c) (xVar 4)) (aCons (xVar 5) aNil)))))) (tNot (tOf (truD T c) (xCall T c 15 (aCons (xBi (bAbsO T c) (aCons (xVar 2) aNil)) (aCons (xBi (bAbsO T c) (aCons (xVar 4) aNil)) (aCons (xVar 5) aNil))))))) (sRet (xK (.bl false))) sNx)
noncomputable def sm4 (c : Fn) : Fs := (sRet (xAnd (truD T c) (xCall T c 14 (aCons (xMethW T c 43 (xVar 2) aNil) (aCons (xBin (binD T c .FloorDiv) (xVar 4) (xVar 5)) aNil))) (xCall T c 14 (aCons (xMethW T c 42 (xVar 2) aNil) (aCons (xUn (negD T c) (xBin (binD T c .FloorDiv) (xUn (negD T c) (xVar 4)) (xVar 5))) aNil)))))
theorem sm_eq (c : Fn) : B_18 c = sSeq (sm1 c) (sSeq (sm2 c) (sSeq (sm3 c) (sm4 c))) := rfl
noncomputable def or1 (c : Fn) : Fs := (sPar 4 5 (aCons (xBin (binD T c .Mult) (xBin subD (xVar 0) (xK (.int 0))) (xBin subD (xVar 1) (xK (.int 1)))) (aCons (xBin (binD T c .Mult) (xBin subD (xVar 1) (xK (.int 0))) (xBin subD (xVar 0) (xK (.int 1)))) aNil)))
noncomputable def or2 (c : Fn) : Fs := (sAsg (xLst (aCons (xTup (aCons (xBin (eqB T c false) (xVar 2) (xVar 3)) (aCons (xBin (eqB T c false) (xVar 4) (xVar 5)) aNil))) (aCons (xTup (aCons (xBin (eqB T c true) (xVar 2) (xVar 3)) (aCons (xBin (eqB T c true) (xVar 4) (xVar 5)) aNil))) (aCons (xTup (aCons (xBin (ordD T c .Lt) (xVar 2) (xVar 3)) (aCons (xBin (ordD T c .Lt) (xVar 4) (xVar 5)) aNil))) aNil)))) (gNm 6))
noncomputable def or3 (c : Fn) : Fs := (sAsg (xBin (binD T c .Add) (xVar 6) (xLst (aCons (xTup (aCons (xBin (ordD T c .LtE) (xVar 2) (xVar 3)) (aCons (xBin (ordD T c .LtE) (xVar 4) (xVar 5)) aNil))) (aCons (xTup (aCons (xBin (ordD T c .Gt) (xVar 2) (xVar 3)) (aCons (xBin (ordD T c .Gt) (xVar 4) (xVar 5)) aNil))) (aCons (xTup (aCons (xBin (ordD T c .GtE) (xVar 2) (xVar 3)) (aCons (xBin (ordD T c .GtE) (xVar 4) (xVar 5)) aNil))) aNil))))) (gNm 6))
noncomputable def or4 (c : Fn) : Fs := (sFor (iSeq (xVar 6)) (gTp (gsCons (gNm 7) (gsCons (gNm 8) gsNil))) (sIf (tNot (tOf (truD T c) (xCall T c 12 (aCons (xVar 7) (aCons (xVar 8) aNil))))) (sRet (xK (.bl false))) sNx))
noncomputable def or5 (c : Fn) : Fs := (sRet (xK (.bl true)))
theorem or_eq (c : Fn) : B_20 c = sSeq (or1 c) (sSeq (or2 c) (sSeq (or3 c) (sSeq (or4 c) (or5 c)))) := rfl
noncomputable def mx1 (c : Fn) : Fs := (sAsg (xVar 0) (gTp (gsCons (gNm 3) (gsCons (gNm 4) gsNil))))
noncomputable def mx2 (c : Fn) : Fs := (sIf (tOr (tNot (tOf (truD T c) (xCall T c 15 (aCons (xBin (binD T c .Add) (xVar 2) (xVar 1)) (aCons (xBin (binD T c .Add) (xVar 3) (xBin (binD T c .Mult) (xVar 1) (xVar 4))) (aCons (xVar 4) aNil)))))) (tNot (tOf (truD T c) (xCall T c 15 (aCons (xBin (binD T c .Add) (xVar 1) (xVar 2)) (aCons (xBin (binD T c .Add) (xVar 3) (xBin (binD T c .Mult) (xVar 1) (xVar 4))) (aCons (xVar 4) aNil))))))) (sRet (xK (.bl false))) sNx)
noncomputable def mx3 (c : Fn) : Fs := (sIf (tOr (tNot (tOf (truD T c) (xCall T c 15 (aCons (xBin (binD T c .Sub) (xVar 2) (xVar 1)) (aCons (xBin (binD T c .Sub) (xVar 3) (xBin (binD T c .Mult) (xVar 1) (xVar 4))) (aCons (xVar 4) aNil)))))) (tNot (tOf (truD T c) (xCall T c 15 (aCons (xBin (binD T c .Sub) (xVar 1) (xVar 2)) (aCons (xBin (binD T c .Sub) (xBin (binD T c .Mult) (xVar 1) (xVar 4)) (xVar 3)) (aCons (xVar 4) aNil))))))) (sRet (xK (.bl false))) sNx)
noncomputable def mx4 (c : Fn) : Fs := (sIf (tOr (tNot (tOf (truD T c) (xCall T c 15 (aCons (xBin (binD T c .Mult) (xVar 2) (xVar 1)) (aCons (xBin (binD T c .Mult) (xVar 3) (xVar 1)) (aCons (xVar 4) aNil)))))) (tNot (tOf (truD T c) (xCall T c 15 (aCons (xBin (binD T c .Mult) (xVar 1) (xVar 2)) (aCons (xBin (binD T c .Mult) (xVar 3) (xVar 1)) (aCons (xVar 4) aNil))))))) (sRet (xK (.bl false))) sNx)
noncomputable def mx5 (c : Fn) : Fs := (sAsg (xBin (binD T c .Mult) (xVar 1) (xVar 4)) (gNm 5))
noncomputable def mx6 (c : Fn) : Fs := (sAsg (xLst (aCons (xTup (aCons (xBin (eqI T c) (xVar 2) (xVar 1)) (aCons (xBin (eqI T c) (xVar 3) (xVar 5)) aNil))) (aCons (xTup (aCons (xBin (eqI T c) (xVar 1) (xVar 2)) (aCons (xBin (eqI T c) (xVar 3) (xVar 5)) aNil))) (aCons (xTup (aCons (xBin (ordD T c .Lt) (xVar 2) (xVar 1)) (aCons (xBin (ordD T c .Lt) (xVar 3) (xVar 5)) aNil))) aNil)))) (gNm 6))
noncomputable def mx7 (c : Fn) : Fs := (sAsg (xBin (binD T c .Add) (xVar 6) (xLst (aCons (xTup (aCons (xBin (ordD T c .Lt) (xVar 1) (xVar 2)) (aCons (xBin (ordD T c .Lt) (xVar 5) (xVar 3)) aNil))) (aCons (xTup (aCons (xBin (ordD T c .LtE) (xVar 2) (xVar 1)) (aCons (xBin (ordD T c .LtE) (xVar 3) (xVar 5)) aNil))) (aCons (xTup (aCons (xBin (ordD T c .LtE) (xVar 1) (xVar 2)) (aCons (xBin (ordD T c .LtE) (xVar 5) (xVar 3)) aNil))) aNil))))) (gNm 6))
noncomputable def mx8 (c : Fn) : Fs := (sAsg (xBin (binD T c .Add) (xVar 6) (xLst (aCons (xTup (aCons (xBin (ordD T c .Gt) (xVar 2) (xVar 1)) (aCons (xBin (ordD T c .Gt) (xVar 3) (xVar 5)) aNil))) (aCons (xTup (aCons (xBin (ordD T c .Gt) (xVar 1) (xVar 2)) (aCons (xBin (ordD T c .Gt) (xVar 5) (xVar 3)) aNil))) (aCons (xTup (aCons (xBin (ordD T c .GtE) (xVar 2) (xVar 1)) (aCons (xBin (ordD T c .GtE) (xVar 3) (xVar 5)) aNil))) aNil))))) (gNm 6))
noncomputable def mx9 (c : Fn) : Fs := (sFor (iSeq (xBin (binD T c .Add) (xVar 6) (xLst (aCons (xTup (aCons (xBin (ordD T c .GtE) (xVar 1) (xVar 2)) (aCons (xBin (ordD T c .GtE) (xVar 5) (xVar 3)) aNil))) aNil)))) (gTp (gsCons (gNm 7) (gsCons (gNm 8) gsNil))) (sIf (tNot (tOf (truD T c) (xCall T c 12 (aCons (xVar 7) (aCons (xVar 8) aNil))))) (sRet (xK (.bl false))) sNx))
noncomputable def mx10 (c : Fn) : Fs := (sRet (xK (.bl true)))
theorem mx_eq (c : Fn) : B_19 c = sSeq (mx1 c) (sSeq (mx2 c) (sSeq (mx3 c) (sSeq (mx4 c) (sSeq (mx5 c) (sSeq (mx6 c) (sSeq (mx7 c) (sSeq (mx8 c) (sSeq (mx9 c) (mx10 c))))))))) := rfl
def Rw (b : Bool) : D := .tup [.bl b, .bl b]
theorem ei_ii (c : Fn) (x y : Int) (st : Store) : eqI T c (.int x) (.int y) st = .ok (.bl (x == y)) st := by
  show eqB T c false (.int x) (.int y) st = _
  simp
section
variable {c : Fn} {st : Store} {n d m e i f g : Int} {p q r r1 r2 r3 r4 : Rat} {b b1 b2 b3 : Bool}
theorem sm1_run  : sm1 c (startE 8 [prD (n, d), prD (m, e), rD p, rD q]) st = .nx [some (prD (n, d)), some (prD (m, e)), some (rD p), some (rD q), some (.int n), some (.int d), some (.int m), some (.int e)] st := by
  simp [sm1, startE, pr_0, pr_1]
theorem sm2_run (h1 : binD T c .Add (rD p) (rD q) st = .ok (rD r1) st) (m1 : IntMulOk n e) (m2 : IntMulOk m d) (m3 : IntMulOk d e) (h2 : c 15 [rD r1, .int (n * e + m * d), .int (d * e)] st = .ok (.bl true) st) (h3 : binD T c .Sub (rD p) (rD q) st = .ok (rD r2) st) (h4 : c 15 [rD r2, .int (n * e - m * d), .int (d * e)] st = .ok (.bl true) st) (h5 : binD T c .Mult (rD p) (rD q) st = .ok (rD r3) st) (m4 : IntMulOk n m) (h6 : c 15 [rD r3, .int (n * m), .int (d * e)] st = .ok (.bl true) st) : sm2 c [some (prD (n, d)), some (prD (m, e)), some (rD p), some (rD q), some (.int n), some (.int d), some (.int m), some (.int e)] st = .nx [some (prD (n, d)), some (prD (m, e)), some (rD p), some (rD q), some (.int n), some (.int d), some (.int m), some (.int e)] st := by
  simp [sm2, h1, h2, h3, h4, h5, h6, ib_mul _ m1, ib_mul _ m2, ib_mul _ m3, ib_mul _ m4]
theorem sm3_run (h1 : negD T c (rD p) st = .ok (rD r1) st) (h2 : c 15 [rD r1, .int (-n), .int (d)] st = .ok (.bl true) st) (h3 : bAbsO T c [rD p] st = .ok (rD r2) st) (h4 : bAbsO T c [.int n] st = .ok (.int f) st) (h5 : c 15 [rD r2, .int (f), .int (d)] st = .ok (.bl true) st) : sm3 c [some (prD (n, d)), some (prD (m, e)), some (rD p), some (rD q), some (.int n), some (.int d), some (.int m), some (.int e)] st = .nx [some (prD (n, d)), some (prD (m, e)), some (rD p), some (rD q), some (.int n), some (.int d), some (.int m), some (.int e)] st := by
  simp [sm3, h1, h2, h3, h4, h5]
theorem sm4_run (h1 : c 48 [rD p] st = .ok (.int f) st) (h2 : intBin .FloorDiv n d st = .ok (.int f) st) (h3 : c 14 [.int f, .int f] st = .ok (.bl true) st) (h4 : c 49 [rD p] st = .ok (.int (-g)) st) (h5 : intBin .FloorDiv (-n) d st = .ok (.int g) st) (h6 : c 14 [.int (-g), .int (-g)] st = .ok (.bl true) st) : sm4 c [some (prD (n, d)), some (prD (m, e)), some (rD p), some (rD q), some (.int n), some (.int d), some (.int m), some (.int e)] st = .rt (.bl true) st := by
  simp [sm4, h1, h2, h3, h4, h5, h6, hm_floor, hm_ceil]
theorem or1_run (m1 : IntMulOk n e) (m2 : IntMulOk m d) : or1 c (startE 9 [prD (n, d), prD (m, e), rD p, rD q]) st = .nx [some (prD (n, d)), some (prD (m, e)), some (rD p), some (rD q), some (.int (n * e)), some (.int (m * d)), none, none, none] st := by
  simp [or1, ib_mul _ m1, ib_mul _ m2, startE, pr_0, pr_1]
theorem or2_run (h1 : eqB T c false (rD p) (rD q) st = .ok (.bl (n * e == m * d)) st) (h2 : eqB T c true (rD p) (rD q) st = .ok (.bl (!(n * e == m * d))) st) (h3 : ordD T c .Lt (rD p) (rD q) st = .ok (.bl (decide (n * e < m * d))) st) : or2 c [some (prD (n, d)), some (prD (m, e)), some (rD p), some (rD q), some (.int (n * e)), some (.int (m * d)), none, none, none] st = .nx [some (prD (n, d)), some (prD (m, e)), some (rD p), some (rD q), some (.int (n * e)), some (.int (m * d)), some (.ref st.length), none, none] (st ++ [.lst [Rw (n * e == m * d), Rw (!(n * e == m * d)), Rw (decide (n * e < m * d))]]) := by
  simp [or2, h1, h2, h3, newLst, Rw]
theorem bin_rr {c : Fn} {st : Store} {m p : Nat} {a b : List D} (h1 : st[m]? = some (.lst a)) (h2 : st[p]? = some (.lst b)) (hz : a.length + b.length < 100) : binD T c .Add (.ref m) (.ref p) st = newLst (a ++ b) st := by
  unfold binD
  simp only [h1, h2]
  exact if_pos ⟨trivial, Nat.le_trans (Nat.le_of_lt hz) (by decide)⟩
theorem or3_run {k : Nat} {A : List D} (hk : st[k]? = some (.lst A)) (hA : A.length < 50) (h1 : ordD T c .LtE (rD p) (rD q) st = .ok (.bl (decide (n * e ≤ m * d))) st) (h2 : ordD T c .Gt (rD p) (rD q) st = .ok (.bl (decide (m * d < n * e))) st) (h3 : ordD T c .GtE (rD p) (rD q) st = .ok (.bl (decide (m * d ≤ n * e))) st) : or3 c [some (prD (n, d)), some (prD (m, e)), some (rD p), some (rD q), some (.int (n * e)), some (.int (m * d)), some (.ref k), none, none] st = .nx [some (prD (n, d)), some (prD (m, e)), some (rD p), some (rD q), some (.int (n * e)), some (.int (m * d)), some (.ref (st.length + 1)), none, none] (st ++ [.lst [Rw (decide (n * e ≤ m * d)), Rw (decide (m * d < n * e)), Rw (decide (m * d ≤ n * e))], .lst (A ++ [Rw (decide (n * e ≤ m * d)), Rw (decide (m * d < n * e)), Rw (decide (m * d ≤ n * e))])]) := by
  have q := bin_rr (c := c) (st := st ++ [.lst [Rw (decide (n * e ≤ m * d)), Rw (decide (m * d < n * e)), Rw (decide (m * d ≤ n * e))]]) (m := k) (p := st.length) (a := A) (b := [Rw (decide (n * e ≤ m * d)), Rw (decide (m * d < n * e)), Rw (decide (m * d ≤ n * e))]) (extD hk) (by simp) (by simp; omega)
  simp only [Rw, newLst] at q
  simp [or3, h1, h2, h3, newLst, Rw, q]
theorem tr_loop {chk : Store → Prop} {o0 o1 o2 o3 o4 o5 o6 : Option D} (hT : ∀ b, c 12 [.bl b, .bl b] st = .ok (.bl true) st) (hk : chk st) : ∀ (bs : List Bool) (o7 o8 : Option D),
    ∃ o7' o8', forI chk (gTp (gsCons (gNm 7) (gsCons (gNm 8) gsNil))) (sIf (tNot (tOf (truD T c) (xCall T c 12 (aCons (xVar 7) (aCons (xVar 8) aNil))))) (sRet (xK (.bl false))) sNx) (bs.map Rw) [o0, o1, o2, o3, o4, o5, o6, o7, o8] st = .nx [o0, o1, o2, o3, o4, o5, o6, o7', o8'] st
  | [], o7, o8 => ⟨o7, o8, forI_end hk⟩
  | b :: bs, o7, o8 => by
    obtain ⟨o7', o8', h⟩ := tr_loop hT hk bs (some (.bl b)) (some (.bl b))
    refine ⟨o7', o8', ?_⟩
    have hs : (sIf (tNot (tOf (truD T c) (xCall T c 12 (aCons (xVar 7) (aCons (xVar 8) aNil))))) (sRet (xK (.bl false))) sNx) [o0, o1, o2, o3, o4, o5, o6, some (.bl b), some (.bl b)] st = .nx [o0, o1, o2, o3, o4, o5, o6, some (.bl b), some (.bl b)] st := by
      simp [hT b]
    rw [List.map_cons, forI_step hk rfl hs]
    exact h
theorem or4_run {k : Nat} {o0 o1 o2 o3 o4 o5 o7 o8 : Option D} (hT : ∀ b, c 12 [.bl b, .bl b] st = .ok (.bl true) st) (bs : List Bool) (hk : st[k]? = some (.lst (bs.map Rw))) : ∃ o7' o8', or4 c [o0, o1, o2, o3, o4, o5, some (.ref k), o7, o8] st = .nx [o0, o1, o2, o3, o4, o5, some (.ref k), o7', o8'] st := by
  obtain ⟨o7', o8', h⟩ := tr_loop (o0 := o0) (o1 := o1) (o2 := o2) (o3 := o3) (o4 := o4) (o5 := o5) (o6 := some (.ref k)) (chk := fun s => s[k]? = some (.lst (bs.map Rw))) hT hk bs o7 o8
  refine ⟨o7', o8', ?_⟩
  unfold or4
  rw [for_of (iSeq_st (f := xVar 6) (m := k) rfl hk)]
  exact h
theorem mx1_run  : mx1 c (startE 9 [prD (n, d), .int i, rD p]) st = .nx [some (prD (n, d)), some (.int i), some (rD p), some (.int n), some (.int d), none, none, none, none] st := by
  simp [mx1, startE, prD]
theorem mx2_run (h1 : binD T c .Add (rD p) (.int i) st = .ok (rD r1) st) (m1 : IntMulOk i d) (h2 : c 15 [rD r1, .int (n + i * d), .int (d)] st = .ok (.bl true) st) (h3 : binD T c .Add (.int i) (rD p) st = .ok (rD r2) st) (h4 : c 15 [rD r2, .int (n + i * d), .int (d)] st = .ok (.bl true) st) : mx2 c [some (prD (n, d)), some (.int i), some (rD p), some (.int n), some (.int d), none, none, none, none] st = .nx [some (prD (n, d)), some (.int i), some (rD p), some (.int n), some (.int d), none, none, none, none] st := by
  simp [mx2, h1, h2, h3, h4, ib_mul _ m1]
theorem mx3_run (h1 : binD T c .Sub (rD p) (.int i) st = .ok (rD r1) st) (m1 : IntMulOk i d) (h2 : c 15 [rD r1, .int (n - i * d), .int (d)] st = .ok (.bl true) st) (h3 : binD T c .Sub (.int i) (rD p) st = .ok (rD r2) st) (h4 : c 15 [rD r2, .int (i * d - n), .int (d)] st = .ok (.bl true) st) : mx3 c [some (prD (n, d)), some (.int i), some (rD p), some (.int n), some (.int d), none, none, none, none] st = .nx [some (prD (n, d)), some (.int i), some (rD p), some (.int n), some (.int d), none, none, none, none] st := by
  simp [mx3, h1, h2, h3, h4, ib_mul _ m1]
theorem mx4_run (h1 : binD T c .Mult (rD p) (.int i) st = .ok (rD r1) st) (m1 : IntMulOk n i) (h2 : c 15 [rD r1, .int (n * i), .int (d)] st = .ok (.bl true) st) (h3 : binD T c .Mult (.int i) (rD p) st = .ok (rD r2) st) (h4 : c 15 [rD r2, .int (n * i), .int (d)] st = .ok (.bl true) st) : mx4 c [some (prD (n, d)), some (.int i), some (rD p), some (.int n), some (.int d), none, none, none, none] st = .nx [some (prD (n, d)), some (.int i), some (rD p), some (.int n), some (.int d), none, none, none, none] st := by
  simp [mx4, h1, h2, h3, h4, ib_mul _ m1]
theorem mx5_run (m1 : IntMulOk i d) : mx5 c [some (prD (n, d)), some (.int i), some (rD p), some (.int n), some (.int d), none, none, none, none] st = .nx [some (prD (n, d)), some (.int i), some (rD p), some (.int n), some (.int d), some (.int (i * d)), none, none, none] st := by
  simp [mx5, ib_mul _ m1]
theorem mx6_run (h1 : eqI T c (rD p) (.int i) st = .ok (.bl (n == i * d)) st) (h2 : eqI T c (.int i) (rD p) st = .ok (.bl (n == i * d)) st) (h3 : ordD T c .Lt (rD p) (.int i) st = .ok (.bl (decide (n < i * d))) st) : mx6 c [some (prD (n, d)), some (.int i), some (rD p), some (.int n), some (.int d), some (.int (i * d)), none, none, none] st = .nx [some (prD (n, d)), some (.int i), some (rD p), some (.int n), some (.int d), some (.int (i * d)), some (.ref st.length), none, none] (st ++ [.lst [Rw (n == i * d), Rw (n == i * d), Rw (decide (n < i * d))]]) := by
  simp [mx6, h1, h2, h3, ei_ii, newLst, Rw]
theorem mx7_run {k : Nat} {A : List D} (hk : st[k]? = some (.lst A)) (hA : A.length < 50) (h1 : ordD T c .Lt (.int i) (rD p) st = .ok (.bl (decide (i * d < n))) st) (h2 : ordD T c .LtE (rD p) (.int i) st = .ok (.bl (decide (n ≤ i * d))) st) (h3 : ordD T c .LtE (.int i) (rD p) st = .ok (.bl (decide (i * d ≤ n))) st) : mx7 c [some (prD (n, d)), some (.int i), some (rD p), some (.int n), some (.int d), some (.int (i * d)), some (.ref k), none, none] st = .nx [some (prD (n, d)), some (.int i), some (rD p), some (.int n), some (.int d), some (.int (i * d)), some (.ref (st.length + 1)), none, none] (st ++ [.lst [Rw (decide (i * d < n)), Rw (decide (n ≤ i * d)), Rw (decide (i * d ≤ n))], .lst (A ++ [Rw (decide (i * d < n)), Rw (decide (n ≤ i * d)), Rw (decide (i * d ≤ n))])]) := by
  have q := bin_rr (c := c) (st := st ++ [.lst [Rw (decide (i * d < n)), Rw (decide (n ≤ i * d)), Rw (decide (i * d ≤ n))]]) (m := k) (p := st.length) (a := A) (b := [Rw (decide (i * d < n)), Rw (decide (n ≤ i * d)), Rw (decide (i * d ≤ n))]) (extD hk) (by simp) (by simp; omega)
  simp only [Rw, newLst] at q
  simp [mx7, h1, h2, h3, newLst, Rw, q]
theorem mx8_run {k : Nat} {A : List D} (hk : st[k]? = some (.lst A)) (hA : A.length < 50) (h1 : ordD T c .Gt (rD p) (.int i) st = .ok (.bl (decide (i * d < n))) st) (h2 : ordD T c .Gt (.int i) (rD p) st = .ok (.bl (decide (n < i * d))) st) (h3 : ordD T c .GtE (rD p) (.int i) st = .ok (.bl (decide (i * d ≤ n))) st) : mx8 c [some (prD (n, d)), some (.int i), some (rD p), some (.int n), some (.int d), some (.int (i * d)), some (.ref k), none, none] st = .nx [some (prD (n, d)), some (.int i), some (rD p), some (.int n), some (.int d), some (.int (i * d)), some (.ref (st.length + 1)), none, none] (st ++ [.lst [Rw (decide (i * d < n)), Rw (decide (n < i * d)), Rw (decide (i * d ≤ n))], .lst (A ++ [Rw (decide (i * d < n)), Rw (decide (n < i * d)), Rw (decide (i * d ≤ n))])]) := by
  have q := bin_rr (c := c) (st := st ++ [.lst [Rw (decide (i * d < n)), Rw (decide (n < i * d)), Rw (decide (i * d ≤ n))]]) (m := k) (p := st.length) (a := A) (b := [Rw (decide (i * d < n)), Rw (decide (n < i * d)), Rw (decide (i * d ≤ n))]) (extD hk) (by simp) (by simp; omega)
  simp only [Rw, newLst] at q
  simp [mx8, h1, h2, h3, newLst, Rw, q]
theorem mx9_run {k : Nat} (bs : List Bool) (hk : st[k]? = some (.lst (bs.map Rw))) (hA : bs.length < 50) (h1 : ordD T c .GtE (.int i) (rD p) st = .ok (.bl (decide (n ≤ i * d))) st) (hT : ∀ b, c 12 [.bl b, .bl b] (st ++ [.lst [Rw (decide (n ≤ i * d))], .lst (bs.map Rw ++ [Rw (decide (n ≤ i * d))])]) = .ok (.bl true) (st ++ [.lst [Rw (decide (n ≤ i * d))], .lst (bs.map Rw ++ [Rw (decide (n ≤ i * d))])])) : ∃ o7' o8', mx9 c [some (prD (n, d)), some (.int i), some (rD p), some (.int n), some (.int d), some (.int (i * d)), some (.ref k), none, none] st = .nx [some (prD (n, d)), some (.int i), some (rD p), some (.int n), some (.int d), some (.int (i * d)), some (.ref k), o7', o8'] (st ++ [.lst [Rw (decide (n ≤ i * d))], .lst (bs.map Rw ++ [Rw (decide (n ≤ i * d))])]) := by
  have q := bin_rr (c := c) (st := st ++ [.lst [Rw (decide (n ≤ i * d))]]) (m := k) (p := st.length) (a := bs.map Rw) (b := [Rw (decide (n ≤ i * d))]) (extD hk) (by simp) (by simp; omega)
  have hx : ∀ ρ : Ev, ρ[6]? = some (some (.ref k)) → True := fun _ _ => trivial
  obtain ⟨o7', o8', h⟩ := tr_loop (c := c) (o0 := some (prD (n, d))) (o1 := some (.int i)) (o2 := some (rD p)) (o3 := some (.int n)) (o4 := some (.int d)) (o5 := some (.int (i * d))) (o6 := some (.ref k)) (chk := fun s => s[st.length + 1]? = some (.lst (bs.map Rw ++ [Rw (decide (n ≤ i * d))]))) hT (by simp) (bs ++ [decide (n ≤ i * d)]) none none
  refine ⟨o7', o8', ?_⟩
  unfold mx9
  rw [for_of' (iSeq_st (m := st.length + 1) (ds := bs.map Rw ++ [Rw (decide (n ≤ i * d))]) (st' := st ++ [.lst [Rw (decide (n ≤ i * d))], .lst (bs.map Rw ++ [Rw (decide (n ≤ i * d))])]) ?_ (by simp))]
  · rw [List.map_append] at h
    exact h
  · simp only [Rw, newLst] at q
    simp [h1, newLst, Rw, q]
end
structure Fr (n d : Int) : Prop where
  pos : 0 < d
  n : Nb 300 n
  d : Nb 300 d
theorem Fr.ne {n d : Int} (h : Fr n d) : d ≠ 0 := by have := h.pos; omega
theorem Fr.sz {n d : Int} (h : Fr n d) : Sz 300 ((n : Rat) / d) := sz_div h.n h.d h.ne
theorem ab_eq {n d : Int} (h : Fr n d) : ab ((n : Rat) / d) = ((n.natAbs : Int) : Rat) / d := by
  have hn := num_over h.ne (rfl : (n : Rat) / d = (n : Rat) / d)
  have qz : ∀ z : Rat, z = (z.num : Rat) / ((z.den : Int) : Rat) := fun z => by rw [← Rat.divInt_eq_div, Rat.num_divInt_den]
  have q := qz ((n : Rat) / d)
  have hp : (0 : Int) < (((n : Rat) / d).den : Int) := Int.natCast_pos.mpr (Rat.den_pos _)
  have hd := h.pos
  unfold ab
  rw [Rat.divInt_eq_div]
  generalize hP : (n : Rat) / d = p at *
  by_cases hs : p.num < 0
  · have hn0 : n < 0 := by
      have h1 := Int.mul_neg_of_neg_of_pos hs hd
      rcases Int.lt_or_le n 0 with k | k
      · exact k
      · have := Int.mul_nonneg k (Int.le_of_lt hp)
        omega
    rw [show ((p.num.natAbs : Nat) : Int) = -p.num by omega, show ((n.natAbs : Nat) : Int) = -n by omega, ← fng, ← fng, ← q, hP]
  · have hn0 : 0 ≤ n := by
      have h1 := Int.mul_nonneg (show 0 ≤ p.num by omega) (Int.le_of_lt hd)
      rcases Int.lt_or_le n 0 with k | k
      · have := Int.mul_neg_of_neg_of_pos k hp
        omega
      · exact k
    rw [show ((p.num.natAbs : Nat) : Int) = p.num by omega, show ((n.natAbs : Nat) : Int) = n by omega, ← q, hP]
theorem dq_lt {n d m e : Int} (h1 : Fr n d) (h2 : Fr m e) : decide ((n : Rat) / d < (m : Rat) / e) = decide (n * e < m * d) := by
  rw [decide_eq_decide]
  exact f_lt h1.pos h2.pos
theorem dq_le {n d m e : Int} (h1 : Fr n d) (h2 : Fr m e) : decide ((n : Rat) / d ≤ (m : Rat) / e) = decide (n * e ≤ m * d) := by
  rw [decide_eq_decide]
  exact f_le h1.pos h2.pos
section
variable {n d i : Int}
theorem di_lt (h : Fr n d) : decide ((n : Rat) / d < (i : Rat)) = decide (n < i * d) := by
  rw [decide_eq_decide]
  exact fi_lt h.pos
theorem di_le (h : Fr n d) : decide ((n : Rat) / d ≤ (i : Rat)) = decide (n ≤ i * d) := by
  rw [decide_eq_decide]
  exact fi_le h.pos
theorem di_gt (h : Fr n d) : decide ((i : Rat) < (n : Rat) / d) = decide (i * d < n) := by
  rw [decide_eq_decide]
  exact fi_gt h.pos
theorem di_ge (h : Fr n d) : decide ((i : Rat) ≤ (n : Rat) / d) = decide (i * d ≤ n) := by
  rw [decide_eq_decide]
  exact fi_ge h.pos
theorem di_eq (h : Fr n d) : decide ((n : Rat) / d = (i : Rat)) = (n == i * d) := by
  have : decide ((n : Rat) / d = (i : Rat)) = decide (n = i * d) := by
    rw [decide_eq_decide]
    exact fi_eq h.pos
  rw [this]
  rfl
end
theorem s_sums (k : Nat) (n d m e : Int) (h1 : Fr n d) (h2 : Fr m e) (st : Store) : run (k + 5) 18 [prD (n, d), prD (m, e), rD ((n : Rat) / d), rD ((m : Rat) / e)] st = .ok (.bl true) st := by
  have sp := h1.sz.mono (b' := 4000) (by decide)
  have sq := h2.sz.mono (b' := 4000) (by decide)
  have de := Int.mul_ne_zero h1.ne h2.ne
  have nde : Nb 100000 (d * e) := (h1.d.mul h2.d).mono (by decide)
  have nd : Nb 100000 d := h1.d.mono (by decide)
  have r := fun x t b hb hx nt nb h => s_ratio_is (k + 2) x t b st hb hx nt nb h
  have fd := ib_fdiv (st := st) (i := n) (j := d) ⟨h1.ne, log2_lt (h1.d.mono (b' := 9000) (by decide)) (by decide)⟩
  have fd2 := ib_fdiv (st := st) (i := -n) (j := d) ⟨h1.ne, log2_lt (h1.d.mono (b' := 9000) (by decide)) (by decide)⟩
  have e1 := s_floor (k + 3) (p := (n : Rat) / d) st sp
  rw [fl_pos h1.pos] at e1
  have e2 := s_ceil (k + 3) (p := (n : Rat) / d) st sp
  have e3 : (-((n : Rat) / d).num).fdiv ((n : Rat) / d).den = (-n).fdiv d := by
    have : fl (-((n : Rat) / d)) = (-n).fdiv d := by rw [fng, fl_pos h1.pos]
    rw [← this]
    unfold fl
    rw [Rat.neg_num, Rat.neg_den]
  rw [e3] at e2
  have hab := ab_eq h1
  rw [run_18]
  refine fnD_rt0 ?_ (by simp)
  rw [sm_eq]
  refine seq_step sm1_run ?_
  refine seq_step (sm2_run (b_add (k + 1) _ _ st sp sq) (h1.n.ok h2.d (by decide)) (h2.n.ok h1.d (by decide)) (h1.d.ok h2.d (by decide))
    (r _ _ _ de ((h1.sz.add h2.sz).mono (by decide)) (((h1.n.mul h2.d).add (h2.n.mul h1.d)).mono (by decide)) nde (qfa n d m e h1.ne h2.ne)) (b_sub (k + 1) _ _ st sp sq)
    (r _ _ _ de ((h1.sz.sub h2.sz).mono (by decide)) (((h1.n.mul h2.d).sub (h2.n.mul h1.d)).mono (by decide)) nde (qfs n d m e h1.ne h2.ne)) (b_mul (k + 1) _ _ st sp sq) (h1.n.ok h2.n (by decide))
    (r _ _ _ de ((h1.sz.mul h2.sz).mono (by decide)) ((h1.n.mul h2.n).mono (by decide)) nde (qfm n d m e h1.ne h2.ne))) ?_
  refine seq_step (sm3_run (b_neg (k + 1) _ st sp) (r _ _ _ h1.ne (sp.neg.mono (by decide)) (h1.n.neg.mono (by decide)) nd (fng n d)) (s_abs (k + 1) st sp) (f := (n.natAbs : Int)) (by
    show Res.ok (D.int (if n < 0 then -n else n)) st = _
    congr 2
    split <;> omega) (r _ _ _ h1.ne (by rw [hab]; exact (sz_div h1.n.abs h1.d h1.ne).mono (by decide)) (h1.n.abs.mono (by decide)) nd hab)) ?_
  exact sm4_run e1 fd (s_whole_is (k + 3) _ st) e2 fd2 (s_whole_is (k + 3) _ st)
theorem eqq {n d m e : Int} (h1 : Fr n d) (h2 : Fr m e) : decide ((n : Rat) / d = (m : Rat) / e) = (n * e == m * d) := by
  have : decide ((n : Rat) / d = (m : Rat) / e) = decide (n * e = m * d) := by
    rw [decide_eq_decide]
    exact f_eq h1.pos h2.pos
  rw [this]
  rfl
theorem bnf (b : Bool) : (b != false) = b := by cases b <;> rfl
theorem bnt (b : Bool) : (b != true) = !b := by cases b <;> rfl
theorem s_order (k : Nat) (n d m e : Int) (h1 : Fr n d) (h2 : Fr m e) (st : Store) : run (k + 5) 20 [prD (n, d), prD (m, e), rD ((n : Rat) / d), rD ((m : Rat) / e)] st = .ok (.bl true) st := by
  have sp := h1.sz.mono (b' := 4000) (by decide)
  have sq := h2.sz.mono (b' := 4000) (by decide)
  have q1 := fun st => b_eq (k + 2) ((n : Rat) / d) ((m : Rat) / e) st false
  have q2 := fun st => b_eq (k + 2) ((n : Rat) / d) ((m : Rat) / e) st true
  rw [eqq h1 h2, bnf] at q1
  rw [eqq h1 h2, bnt] at q2
  have q3 := fun st => o_lt k (IsN.rD ((m : Rat) / e)) sp sq st
  have q4 := fun st => o_le k (IsN.rD ((m : Rat) / e)) sp sq st
  have q5 := fun st => o_gt k (IsN.rD ((m : Rat) / e)) sp sq st
  have q6 := fun st => o_ge k (IsN.rD ((m : Rat) / e)) sp sq st
  rw [dq_lt h1 h2] at q3
  rw [dq_le h1 h2] at q4
  rw [dq_lt h2 h1] at q5
  rw [dq_le h2 h1] at q6
  have a2 := or2_run (c := run (k + 4)) (q1 st) (q2 st) (q3 st)
  have g2 := at_end st (.lst [Rw (n * e == m * d), Rw (!(n * e == m * d)), Rw (decide (n * e < m * d))])
  generalize hS : st ++ [Cell.lst [Rw (n * e == m * d), Rw (!(n * e == m * d)), Rw (decide (n * e < m * d))]] = S at *
  have a3 := or3_run (c := run (k + 4)) (n := n) (d := d) (m := m) (e := e) g2 (by simp) (q4 _) (q5 _) (q6 _)
  obtain ⟨o7, o8, a4⟩ := or4_run (c := run (k + 4)) (k := S.length + 1) (o0 := some (prD (n, d))) (o1 := some (prD (m, e))) (o2 := some (rD ((n : Rat) / d))) (o3 := some (rD ((m : Rat) / e))) (o4 := some (.int (n * e))) (o5 := some (.int (m * d))) (o7 := none) (o8 := none) (fun b => s_truth (k + 3) b _) [n * e == m * d, !(n * e == m * d), decide (n * e < m * d), decide (n * e ≤ m * d), decide (m * d < n * e), decide (m * d ≤ n * e)] (get2 _ _ _ _)
  rw [run_20]
  have fin := seq_step (or1_run (c := run (k + 4)) (st := st) (p := (n : Rat) / d) (q := (m : Rat) / e) (h1.n.ok h2.d (by decide)) (h2.n.ok h1.d (by decide))) (seq_step a2 (seq_step a3 (seq_step a4 (rfl : or5 (run (k + 4)) _ _ = .rt (.bl true) _))))
  rw [← hS, List.append_assoc] at fin
  rw [fnD_rt (by rw [or_eq]; exact fin)]
  exact tidy_same (by simp)
theorem s_mixed (k : Nat) (n d i : Int) (h1 : Fr n d) (ni : Nb 400 i) (st : Store) : run (k + 6) 19 [prD (n, d), .int i, rD ((n : Rat) / d)] st = .ok (.bl true) st := by
  have sp := h1.sz.mono (b' := 4000) (by decide)
  have nj := ni.mono (b' := 4000) (by decide)
  have sj : Sz 4000 (i : Rat) := .int nj (by decide)
  have si : Sz 400 (i : Rat) := .int ni (by decide)
  have nd : Nb 100000 d := h1.d.mono (by decide)
  have r := fun x t b hb hx nt nb h => s_ratio_is (k + 3) x t b st hb hx nt nb h
  have q1 := fun st => b_eq_i (k + 1) ((n : Rat) / d) i st false
  have q2 := fun st => ei_eq (k + 1) st i nj sp
  rw [di_eq h1, bnf] at q1
  rw [di_eq h1] at q2
  have q3 := fun st => o_lt (k + 1) (IsN.int i) sp sj st
  have q4 := fun st => o_le (k + 1) (IsN.int i) sp sj st
  have q5 := fun st => o_gt (k + 1) (IsN.int i) sp sj st
  have q6 := fun st => o_ge (k + 1) (IsN.int i) sp sj st
  rw [di_lt h1] at q3
  rw [di_le h1] at q4
  rw [di_gt h1] at q5
  rw [di_ge h1] at q6
  have p3 := fun st => oi_lt (k + 1) i sp nj st
  have p4 := fun st => oi_le (k + 1) i sp nj st
  have p5 := fun st => oi_gt (k + 1) i sp nj st
  have p6 := fun st => oi_ge (k + 1) i sp nj st
  rw [di_lt h1] at p3
  rw [di_le h1] at p4
  rw [di_gt h1] at p5
  rw [di_ge h1] at p6
  have md : IntMulOk i d := ni.ok h1.d (by decide)
  have mn : IntMulOk n i := h1.n.ok ni (by decide)
  have sz := h1.sz
  have a1 := mx1_run (c := run (k + 5)) (st := st) (n := n) (d := d) (i := i) (p := (n : Rat) / d)
  have a2 := mx2_run (b_add_i (k + 1) _ i st sp nj) md (r _ _ _ h1.ne ((sz.add si).mono (by decide)) ((h1.n.add (ni.mul h1.d)).mono (by decide)) nd (fai n d i h1.ne)) (b_radd (k + 2) st i sp nj) (r _ _ _ h1.ne ((si.add sz).mono (by decide)) ((h1.n.add (ni.mul h1.d)).mono (by decide)) nd (fia n d i h1.ne))
  have a3 := mx3_run (b_sub_i (k + 1) _ i st sp nj) md (r _ _ _ h1.ne ((sz.sub si).mono (by decide)) ((h1.n.sub (ni.mul h1.d)).mono (by decide)) nd (fsi n d i h1.ne)) (b_rsub (k + 2) st i sp nj) (r _ _ _ h1.ne ((si.sub sz).mono (by decide)) (((ni.mul h1.d).sub h1.n).mono (by decide)) nd (fis n d i h1.ne))
  have a4 := mx4_run (b_mul_i (k + 1) _ i st sp nj) mn (r _ _ _ h1.ne ((sz.mul si).mono (by decide)) ((h1.n.mul ni).mono (by decide)) nd (fmi n d i)) (b_rmul (k + 2) _ i st sp nj) (r _ _ _ h1.ne ((si.mul sz).mono (by decide)) ((h1.n.mul ni).mono (by decide)) nd (fim n d i))
  have a5 := mx5_run (c := run (k + 5)) (st := st) (n := n) (d := d) (i := i) (p := (n : Rat) / d) md
  have a6 := mx6_run (c := run (k + 5)) (q1 st) (q2 st) (q3 st)
  have g6 := at_end st (.lst [Rw (n == i * d), Rw (n == i * d), Rw (decide (n < i * d))])
  generalize hS : st ++ [Cell.lst [Rw (n == i * d), Rw (n == i * d), Rw (decide (n < i * d))]] = S at *
  have a7 := mx7_run (c := run (k + 5)) (n := n) (d := d) (i := i) g6 (by simp) (p5 _) (q4 _) (p6 _)
  have g7 := get2 S [] (.lst [Rw (decide (i * d < n)), Rw (decide (n ≤ i * d)), Rw (decide (i * d ≤ n))]) (.lst ([Rw (n == i * d), Rw (n == i * d), Rw (decide (n < i * d))] ++ [Rw (decide (i * d < n)), Rw (decide (n ≤ i * d)), Rw (decide (i * d ≤ n))]))
  generalize hS2 : S ++ [Cell.lst [Rw (decide (i * d < n)), Rw (decide (n ≤ i * d)), Rw (decide (i * d ≤ n))], .lst ([Rw (n == i * d), Rw (n == i * d), Rw (decide (n < i * d))] ++ [Rw (decide (i * d < n)), Rw (decide (n ≤ i * d)), Rw (decide (i * d ≤ n))])] = S2 at *
  have a8 := mx8_run (c := run (k + 5)) (n := n) (d := d) (i := i) g7 (by simp) (q5 _) (p3 _) (q6 _)
  have g8 := get2 S2 [] (.lst [Rw (decide (i * d < n)), Rw (decide (n < i * d)), Rw (decide (i * d ≤ n))]) (.lst ([Rw (n == i * d), Rw (n == i * d), Rw (decide (n < i * d))] ++ [Rw (decide (i * d < n)), Rw (decide (n ≤ i * d)), Rw (decide (i * d ≤ n))] ++ [Rw (decide (i * d < n)), Rw (decide (n < i * d)), Rw (decide (i * d ≤ n))]))
  generalize hS3 : S2 ++ [Cell.lst [Rw (decide (i * d < n)), Rw (decide (n < i * d)), Rw (decide (i * d ≤ n))], .lst ([Rw (n == i * d), Rw (n == i * d), Rw (decide (n < i * d))] ++ [Rw (decide (i * d < n)), Rw (decide (n ≤ i * d)), Rw (decide (i * d ≤ n))] ++ [Rw (decide (i * d < n)), Rw (decide (n < i * d)), Rw (decide (i * d ≤ n))])] = S3 at *
  obtain ⟨o7, o8, a9⟩ := mx9_run (c := run (k + 5)) (n := n) (d := d) (i := i) (k := S2.length + 1) (p := (n : Rat) / d) [n == i * d, n == i * d, decide (n < i * d), decide (i * d < n), decide (n ≤ i * d), decide (i * d ≤ n), decide (i * d < n), decide (n < i * d), decide (i * d ≤ n)] g8 (by simp) (p4 _) (fun b => s_truth (k + 4) b _)
  have fin := seq_step a1 (seq_step a2 (seq_step a3 (seq_step a4 (seq_step a5 (seq_step a6 (seq_step a7 (seq_step a8 (seq_step a9 (rfl : mx10 (run (k + 5)) _ _ = .rt (.bl true) _)))))))))
  rw [← hS3, ← hS2, ← hS, List.append_assoc, List.append_assoc, List.append_assoc] at fin
  rw [run_19, fnD_rt (by rw [mx_eq]; exact fin)]
  exact tidy_same (by simp)
end G08
namespace G08
open PySem PySem.Spec PyProof.Rows L2 Gm
theorem Sz_inv {p : Rat} {b : Nat} (h : Sz b p) (h0 : p ≠ 0) : Sz b p⁻¹ := by
  rw [Rat.inv_def]
  exact Sz.of h.den h.num (fun z => h0 (Rat.num_eq_zero.mp z))
theorem Sz_div {p q : Rat} {b b' : Nat} (h : Sz b p) (h' : Sz b' q) (h0 : q ≠ 0) : Sz (b + b') (p / q) := by
  rw [Rat.div_def]
  exact h.mul (Sz_inv h' h0)
theorem fl_nb {q : Rat} {b : Nat} (h : Sz b q) : Nb (b + 1) (fl q) := by
  unfold Nb fl
  have h1 := h.1
  have hd : (0 : Int) < (q.den : Int) := Int.natCast_pos.mpr q.den_pos
  have e1 := Int.fmod_def q.num q.den
  have e2 := Int.fmod_nonneg_of_pos q.num hd
  have e3 := Int.fmod_lt_of_pos q.num hd
  have k1 : (q.den : Int) * q.num.fdiv q.den ≤ q.num := by omega
  have k2 : q.num < q.den * (q.num.fdiv q.den + 1) := by rw [Int.mul_add]; omega
  generalize q.num.fdiv q.den = f at *
  rw [Nat.pow_succ]
  rcases (show 0 ≤ f ∨ f < 0 by omega) with hf | hf
  · have := Int.mul_le_mul_of_nonneg_right (show (1 : Int) ≤ q.den by omega) hf
    omega
  · have := Int.mul_nonneg (show (0 : Int) ≤ q.den - 1 by omega) (show 0 ≤ -(f + 1) by omega)
    have e : ((q.den : Int) - 1) * -(f + 1) = -(q.den * (f + 1)) + (f + 1) := by grind
    omega
end G08
namespace G08
open PySem PySem.Spec PyProof.Rows L2 Gm
noncomputable def fr1 (c : Fn) : Fs := (sAsg (xTup (aCons (xBin subD (xVar 0) (xK (.int 0))) (aCons (xBin subD (xVar 0) (xK (.int 1))) (aCons (xBin subD (xVar 1) (xK (.int 0))) (aCons (xBin subD (xVar 1) (xK (.int 1))) aNil))))) (gTp (gsCons (gNm 5) (gsCons (gNm 6) (gsCons (gNm 7) (gsCons (gNm 8) gsNil))))))
noncomputable def fr2 (c : Fn) : Fs := (sIf (tOf (truD T c) (xBin (eqB T c true) (xVar 7) (xK (.int 0)))) (sSeq (sAsg (xBin (binD T c .FloorDiv) (xBin (binD T c .Mult) (xVar 5) (xVar 8)) (xBin (binD T c .Mult) (xVar 6) (xVar 7))) (gNm 9)) (sSeq (sPar 10 11 (aCons (xBin (binD T c .Sub) (xBin (binD T c .Mult) (xVar 5) (xVar 8)) (xBin (binD T c .Mult) (xBin (binD T c .Mult) (xVar 9) (xVar 7)) (xVar 6))) (aCons (xMethW T c 44 (xVar 3) (aCons (xVar 4) aNil)) aNil))) (sSeq (sIf (tOr (tNot (tOf (truD T c) (xCall T c 14 (aCons (xBin (binD T c .FloorDiv) (xVar 3) (xVar 4)) (aCons (xVar 9) aNil))))) (tNot (tOf (truD T c) (xCall T c 15 (aCons (xBin (binD T c .Mod) (xVar 3) (xVar 4)) (aCons (xVar 10) (aCons (xBin (binD T c .Mult) (xVar 6) (xVar 8)) aNil))))))) (sRet (xK (.bl false))) sNx) (sIf (tNot (tOf (truD T c) (xCall T c 15 (aCons (xVar 11) (aCons (xBin (binD T c .Mult) (xVar 5) (xVar 8)) (aCons (xBin (binD T c .Mult) (xVar 6) (xVar 7)) aNil)))))) (sRet (xK (.bl false))) sNx)))) sNx)
noncomputable def fr3 (c : Fn) : Fs := (sIf (tOf (truD T c) (xBin (eqB T c true) (xVar 2) (xK (.int 0)))) (sSeq (sAsg (xBin (binD T c .FloorDiv) (xVar 5) (xBin (binD T c .Mult) (xVar 6) (xVar 2))) (gNm 9)) (sSeq (sPar 10 11 (aCons (xBin (binD T c .Sub) (xVar 5) (xBin (binD T c .Mult) (xBin (binD T c .Mult) (xVar 9) (xVar 2)) (xVar 6))) (aCons (xMethW T c 44 (xVar 3) (aCons (xVar 2) aNil)) aNil))) (sSeq (sIf (tOr (tNot (tOf (truD T c) (xCall T c 14 (aCons (xBin (binD T c .FloorDiv) (xVar 3) (xVar 2)) (aCons (xVar 9) aNil))))) (tNot (tOf (truD T c) (xCall T c 15 (aCons (xBin (binD T c .Mod) (xVar 3) (xVar 2)) (aCons (xVar 10) (aCons (xVar 6) aNil))))))) (sRet (xK (.bl false))) sNx) (sIf (tNot (tOf (truD T c) (xCall T c 15 (aCons (xVar 11) (aCons (xVar 5) (aCons (xBin (binD T c .Mult) (xVar 6) (xVar 2)) aNil)))))) (sRet (xK (.bl false))) sNx)))) sNx)
noncomputable def fr4 (c : Fn) : Fs := (sIf (tOf (truD T c) (xBin (eqB T c true) (xVar 5) (xK (.int 0)))) (sSeq (sAsg (xBin (binD T c .FloorDiv) (xBin (binD T c .Mult) (xVar 2) (xVar 6)) (xVar 5)) (gNm 9)) (sSeq (sPar 10 12 (aCons (xBin (binD T c .Sub) (xBin (binD T c .Mult) (xVar 2) (xVar 6)) (xBin (binD T c .Mult) (xVar 9) (xVar 5))) (aCons (xBin (binD T c .Mod) (xVar 2) (xVar 3)) aNil))) (sIf (tOr (tNot (tOf (truD T c) (xCall T c 14 (aCons (xBin (binD T c .FloorDiv) (xVar 2) (xVar 3)) (aCons (xVar 9) aNil))))) (tNot (tOf (truD T c) (xCall T c 15 (aCons (xVar 12) (aCons (xVar 10) (aCons (xVar 6) aNil))))))) (sRet (xK (.bl false))) sNx))) sNx)
noncomputable def fr5 (c : Fn) : Fs := (sRet (xK (.bl true)))
theorem fr_eq (c : Fn) : B_21 c = sSeq (fr1 c) (sSeq (fr2 c) (sSeq (fr3 c) (sSeq (fr4 c) (fr5 c)))) := rfl
section
variable {c : Fn} {st : Store} {n d m e i t : Int} {p q x y : Rat} {o9 o10 o11 o12 : Option D}
theorem fr1_run : fr1 c (startE 13 [prD (n, d), prD (m, e), .int i, rD p, rD q]) st = .nx [some (prD (n, d)), some (prD (m, e)), some (.int i), some (rD p), some (rD q), some (.int n), some (.int d), some (.int m), some (.int e), none, none, none, none] st := by
  simp [fr1, startE, pr_0, pr_1]
theorem fr2_no (hz : (m == 0) = true) : fr2 c [some (prD (n, d)), some (prD (m, e)), some (.int i), some (rD p), some (rD q), some (.int n), some (.int d), some (.int m), some (.int e), o9, o10, o11, o12] st = .nx [some (prD (n, d)), some (prD (m, e)), some (.int i), some (rD p), some (rD q), some (.int n), some (.int d), some (.int m), some (.int e), o9, o10, o11, o12] st := by
  simp [fr2, hz]
theorem fr2_yes (hz : (m == 0) = false) (m1 : IntMulOk n e) (m2 : IntMulOk d m) (hf : intBin .FloorDiv (n * e) (d * m) st = .ok (.int t) st) (m3 : IntMulOk t m) (m4 : IntMulOk (t * m) d) (h1 : c 47 [rD p, rD q] st = .ok (rD x) st) (h2 : binD T c .FloorDiv (rD p) (rD q) st = .ok (.int t) st) (h3 : c 14 [.int t, .int t] st = .ok (.bl true) st) (h4 : binD T c .Mod (rD p) (rD q) st = .ok (rD y) st) (m5 : IntMulOk d e) (h5 : c 15 [rD y, .int (n * e - t * m * d), .int (d * e)] st = .ok (.bl true) st) (h6 : c 15 [rD x, .int (n * e), .int (d * m)] st = .ok (.bl true) st) : fr2 c [some (prD (n, d)), some (prD (m, e)), some (.int i), some (rD p), some (rD q), some (.int n), some (.int d), some (.int m), some (.int e), o9, o10, o11, o12] st = .nx [some (prD (n, d)), some (prD (m, e)), some (.int i), some (rD p), some (rD q), some (.int n), some (.int d), some (.int m), some (.int e), some (.int t), some (.int (n * e - t * m * d)), some (rD x), o12] st := by
  simp [fr2, hz, ib_mul _ m1, ib_mul _ m2, hf, ib_mul _ m3, ib_mul _ m4, hm_over, h1, h2, h3, h4, ib_mul _ m5, h5, h6]
theorem fr3_no (hz : (i == 0) = true) : fr3 c [some (prD (n, d)), some (prD (m, e)), some (.int i), some (rD p), some (rD q), some (.int n), some (.int d), some (.int m), some (.int e), o9, o10, o11, o12] st = .nx [some (prD (n, d)), some (prD (m, e)), some (.int i), some (rD p), some (rD q), some (.int n), some (.int d), some (.int m), some (.int e), o9, o10, o11, o12] st := by
  simp [fr3, hz]
theorem fr3_yes (hz : (i == 0) = false) (m2 : IntMulOk d i) (hf : intBin .FloorDiv n (d * i) st = .ok (.int t) st) (m3 : IntMulOk t i) (m4 : IntMulOk (t * i) d) (h1 : c 47 [rD p, .int i] st = .ok (rD x) st) (h2 : binD T c .FloorDiv (rD p) (.int i) st = .ok (.int t) st) (h3 : c 14 [.int t, .int t] st = .ok (.bl true) st) (h4 : binD T c .Mod (rD p) (.int i) st = .ok (rD y) st) (h5 : c 15 [rD y, .int (n - t * i * d), .int (d)] st = .ok (.bl true) st) (h6 : c 15 [rD x, .int (n), .int (d * i)] st = .ok (.bl true) st) : fr3 c [some (prD (n, d)), some (prD (m, e)), some (.int i), some (rD p), some (rD q), some (.int n), some (.int d), some (.int m), some (.int e), o9, o10, o11, o12] st = .nx [some (prD (n, d)), some (prD (m, e)), some (.int i), some (rD p), some (rD q), some (.int n), some (.int d), some (.int m), some (.int e), some (.int t), some (.int (n - t * i * d)), some (rD x), o12] st := by
  simp [fr3, hz, ib_mul _ m2, hf, ib_mul _ m3, ib_mul _ m4, hm_over, h1, h2, h3, h4, h5, h6]
theorem fr4_no (hz : (n == 0) = true) : fr4 c [some (prD (n, d)), some (prD (m, e)), some (.int i), some (rD p), some (rD q), some (.int n), some (.int d), some (.int m), some (.int e), o9, o10, o11, o12] st = .nx [some (prD (n, d)), some (prD (m, e)), some (.int i), some (rD p), some (rD q), some (.int n), some (.int d), some (.int m), some (.int e), o9, o10, o11, o12] st := by
  simp [fr4, hz]
theorem fr4_yes (hz : (n == 0) = false) (m1 : IntMulOk i d) (hf : intBin .FloorDiv (i * d) n st = .ok (.int t) st) (m3 : IntMulOk t n) (h1 : binD T c .Mod (.int i) (rD p) st = .ok (rD y) st) (h2 : binD T c .FloorDiv (.int i) (rD p) st = .ok (.int t) st) (h3 : c 14 [.int t, .int t] st = .ok (.bl true) st) (h5 : c 15 [rD y, .int (i * d - t * n), .int (d)] st = .ok (.bl true) st) : fr4 c [some (prD (n, d)), some (prD (m, e)), some (.int i), some (rD p), some (rD q), some (.int n), some (.int d), some (.int m), some (.int e), o9, o10, o11, o12] st = .nx [some (prD (n, d)), some (prD (m, e)), some (.int i), some (rD p), some (rD q), some (.int n), some (.int d), some (.int m), some (.int e), some (.int t), some (.int (i * d - t * n)), o11, some (rD y)] st := by
  simp [fr4, hz, ib_mul _ m1, hf, ib_mul _ m3, h1, h2, h3, h5]
end
theorem nz_of {x : Int} (h : (x == 0) = false) : x ≠ 0 := by simpa using h
theorem lg9 {x : Int} {b : Nat} (h : Nb b x) (hb : b ≤ 9000) (hb0 : 0 < b) : x.natAbs.log2 < 9000 := log2_lt (h.mono (b' := 9000) hb) (by decide)
theorem fq0 {n d : Int} (hn : n ≠ 0) (hd : d ≠ 0) : (n : Rat) / d ≠ 0 := fun h => by
  have h1 := q0 hn
  have h2 := q0 hd
  generalize (n : Rat) = n at *
  generalize (d : Rat) = d at *
  grind
theorem s_floors (k : Nat) (n d m e i : Int) (F1 : Fr n d) (F2 : Fr m e) (ni : Nb 400 i) (st : Store) : run (k + 7) 21 [prD (n, d), prD (m, e), .int i, rD ((n : Rat) / d), rD ((m : Rat) / e)] st = .ok (.bl true) st := by
  have sp := F1.sz
  have sq := F2.sz
  have sp4 := sp.mono (b' := 4000) (by decide)
  have sq4 := sq.mono (b' := 4000) (by decide)
  have nj := ni.mono (b' := 4000) (by decide)
  have si : Sz 400 (i : Rat) := .int ni (by decide)
  have sj : Sz 4000 (i : Rat) := .int nj (by decide)
  have nd : Nb 100000 d := F1.d.mono (by decide)
  have r := fun x t b hb hx nt nb h => s_ratio_is (k + 4) x t b st hb hx nt nb h
  obtain ⟨a9, a10, a11, a12, s2⟩ : ∃ a9 a10 a11 a12, fr2 (run (k + 6)) [some (prD (n, d)), some (prD (m, e)), some (.int i), some (rD ((n : Rat) / d)), some (rD ((m : Rat) / e)), some (.int n), some (.int d), some (.int m), some (.int e), none, none, none, none] st = .nx [some (prD (n, d)), some (prD (m, e)), some (.int i), some (rD ((n : Rat) / d)), some (rD ((m : Rat) / e)), some (.int n), some (.int d), some (.int m), some (.int e), a9, a10, a11, a12] st := by
    cases hz : (m == 0) with
    | true => exact ⟨_, _, _, _, fr2_no hz⟩
    | false =>
      have hm := nz_of hz
      have q0' : (m : Rat) / e ≠ 0 := fq0 hm F2.ne
      have sd := Sz_div sp sq q0'
      have hd := fd2 n d m e F1.ne hm F2.ne
      have hf : fl ((n : Rat) / d / ((m : Rat) / e)) = (n * e).fdiv (d * m) := by rw [hd, fl_div (Int.mul_ne_zero F1.ne hm)]
      have nt := fl_nb sd
      have e2 := b_fdivN (k + 1) st (IsN.rD ((m : Rat) / e)) sp4 sq4 q0' (sd.mono (by decide))
      have e4 := b_modN (k + 1) st (IsN.rD ((m : Rat) / e)) sp4 sq4 q0' (sd.mono (by decide)) (nt.mono (by decide)) (((Sz.int nt (by decide)).mul sq).mono (by decide))
      rw [hf] at nt e2 e4
      have sy := ((Sz.int nt (by decide)).mul sq)
      generalize ht : (n * e).fdiv (d * m) = t at *
      have hy : (n : Rat) / d - (t : Rat) * ((m : Rat) / e) = ((n * e - t * m * d : Int) : Rat) / ((d * e : Int) : Rat) := by
        rw [fim m e t, qfs n d (m * t) e F1.ne F2.ne, Int.mul_comm m t]
      have fb := ib_fdiv (st := st) (i := n * e) (j := d * m) ⟨Int.mul_ne_zero F1.ne hm, lg9 (F1.d.mul F2.n) (by decide) (by decide)⟩
      rw [ht] at fb
      exact ⟨_, _, _, _, fr2_yes hz (F1.n.ok F2.d (by decide)) (F1.d.ok F2.n (by decide)) fb (nt.ok F2.n (by decide)) ((nt.mul F2.n).ok F1.d (by decide)) (s_overN (k + 2) st (IsN.rD ((m : Rat) / e)) sp4 sq4 q0') e2 (s_whole_is (k + 5) t st) e4 (F1.d.ok F2.d (by decide))
        (r _ _ _ (Int.mul_ne_zero F1.ne F2.ne) ((sp.sub sy).mono (by decide)) (((F1.n.mul F2.d).sub ((nt.mul F2.n).mul F1.d)).mono (by decide)) ((F1.d.mul F2.d).mono (by decide)) hy)
        (r _ _ _ (Int.mul_ne_zero F1.ne hm) (sd.mono (by decide)) ((F1.n.mul F2.d).mono (by decide)) ((F1.d.mul F2.n).mono (by decide)) hd)⟩
  obtain ⟨b9, b10, b11, b12, s3⟩ : ∃ b9 b10 b11 b12, fr3 (run (k + 6)) [some (prD (n, d)), some (prD (m, e)), some (.int i), some (rD ((n : Rat) / d)), some (rD ((m : Rat) / e)), some (.int n), some (.int d), some (.int m), some (.int e), a9, a10, a11, a12] st = .nx [some (prD (n, d)), some (prD (m, e)), some (.int i), some (rD ((n : Rat) / d)), some (rD ((m : Rat) / e)), some (.int n), some (.int d), some (.int m), some (.int e), b9, b10, b11, b12] st := by
    cases hz : (i == 0) with
    | true => exact ⟨_, _, _, _, fr3_no hz⟩
    | false =>
      have hm := nz_of hz
      have q0' : (i : Rat) ≠ 0 := q0 hm
      have sd := Sz_div sp si q0'
      have hd := fdi n d i F1.ne hm
      have hf : fl ((n : Rat) / d / (i : Rat)) = n.fdiv (d * i) := by rw [hd, fl_div (Int.mul_ne_zero F1.ne hm)]
      have nt := fl_nb sd
      have e2 := b_fdivN (k + 1) st (IsN.int i) sp4 sj q0' (sd.mono (by decide))
      have e4 := b_modN (k + 1) st (IsN.int i) sp4 sj q0' (sd.mono (by decide)) (nt.mono (by decide)) (((Sz.int nt (by decide)).mul si).mono (by decide))
      rw [hf] at nt e2 e4
      have sy := ((Sz.int nt (by decide)).mul si)
      generalize ht : n.fdiv (d * i) = t at *
      have hy : (n : Rat) / d - (t : Rat) * (i : Rat) = ((n - t * i * d : Int) : Rat) / d := by
        rw [← Rat.intCast_mul, fsi n d (t * i) F1.ne]
      have fb := ib_fdiv (st := st) (i := n) (j := d * i) ⟨Int.mul_ne_zero F1.ne hm, lg9 (F1.d.mul ni) (by decide) (by decide)⟩
      rw [ht] at fb
      exact ⟨_, _, _, _, fr3_yes hz (F1.d.ok ni (by decide)) fb (nt.ok ni (by decide)) ((nt.mul ni).ok F1.d (by decide)) (s_overN (k + 2) st (IsN.int i) sp4 sj q0') e2 (s_whole_is (k + 5) t st) e4
        (r _ _ _ F1.ne ((sp.sub sy).mono (by decide)) ((F1.n.sub ((nt.mul ni).mul F1.d)).mono (by decide)) nd hy)
        (r _ _ _ (Int.mul_ne_zero F1.ne hm) (sd.mono (by decide)) (F1.n.mono (by decide)) ((F1.d.mul ni).mono (by decide)) hd)⟩
  obtain ⟨c9, c10, c11, c12, s4⟩ : ∃ c9 c10 c11 c12, fr4 (run (k + 6)) [some (prD (n, d)), some (prD (m, e)), some (.int i), some (rD ((n : Rat) / d)), some (rD ((m : Rat) / e)), some (.int n), some (.int d), some (.int m), some (.int e), b9, b10, b11, b12] st = .nx [some (prD (n, d)), some (prD (m, e)), some (.int i), some (rD ((n : Rat) / d)), some (rD ((m : Rat) / e)), some (.int n), some (.int d), some (.int m), some (.int e), c9, c10, c11, c12] st := by
    cases hz : (n == 0) with
    | true => exact ⟨_, _, _, _, fr4_no hz⟩
    | false =>
      have hm := nz_of hz
      have q0' : (n : Rat) / d ≠ 0 := fq0 hm F1.ne
      have sd := Sz_div si sp q0'
      have hd := fid n d i F1.ne hm
      have hf : fl ((i : Rat) / ((n : Rat) / d)) = (i * d).fdiv n := by rw [hd, fl_div hm]
      have nt := fl_nb sd
      have e2 := b_rfdiv (k + 1) st i sp4 nj q0' (sd.mono (by decide))
      have e4 := b_rmod (k + 1) st i sp4 nj q0' (sd.mono (by decide)) (nt.mono (by decide)) (((Sz.int nt (by decide)).mul sp).mono (by decide))
      rw [hf] at nt e2 e4
      have sy := ((Sz.int nt (by decide)).mul sp)
      generalize ht : (i * d).fdiv n = t at *
      have hy : (i : Rat) - (t : Rat) * ((n : Rat) / d) = ((i * d - t * n : Int) : Rat) / d := by
        rw [fim n d t, fis (n * t) d i F1.ne, Int.mul_comm n t]
      have fb := ib_fdiv (st := st) (i := i * d) (j := n) ⟨hm, lg9 F1.n (by decide) (by decide)⟩
      rw [ht] at fb
      exact ⟨_, _, _, _, fr4_yes hz (ni.ok F1.d (by decide)) fb (nt.ok F1.n (by decide)) e4 e2 (s_whole_is (k + 5) t st)
        (r _ _ _ F1.ne ((si.sub sy).mono (by decide)) (((ni.mul F1.d).sub (nt.mul F1.n)).mono (by decide)) nd hy)⟩
  rw [run_21]
  refine fnD_rt0 ?_ (by simp)
  rw [fr_eq]
  exact seq_step fr1_run (seq_step s2 (seq_step s3 (seq_step s4 rfl)))
end G08
namespace G08
open PySem PySem.Spec PyProof.Rows L2 Gm
noncomputable def sh1 (c : Fn) : Fs := (sAsg (xVar 0) (gTp (gsCons (gNm 2) (gsCons (gNm 3) gsNil))))
noncomputable def sh2 (c : Fn) : Fs := (sAsg (xLst (aCons (xTup (aCons (xBin (binD T c .Pow) (xVar 1) (xK (.int 0))) (aCons (xK (.int 0)) aNil))) (aCons (xTup (aCons (xBin (binD T c .Pow) (xVar 1) (xK (.int 1))) (aCons (xK (.int 1)) aNil))) (aCons (xTup (aCons (xBin (binD T c .Pow) (xVar 1) (xK (.int 2))) (aCons (xK (.int 2)) aNil))) (aCons (xTup (aCons (xBin (binD T c .Pow) (xVar 1) (xK (.int 3))) (aCons (xK (.int 3)) aNil))) (aCons (xTup (aCons (xBin (binD T c .Pow) (xVar 1) (xK (.int 7))) (aCons (xK (.int 7)) aNil))) aNil)))))) (gNm 4))
noncomputable def sh3 (c : Fn) : Fs := (sFor (iSeq (xSl (xVar 4) oNo (oSo (xCall T c 23 (aCons (xVar 0) aNil))))) (gTp (gsCons (gNm 5) (gsCons (gNm 6) gsNil))) (sIf (tNot (tOf (truD T c) (xCall T c 15 (aCons (xVar 5) (aCons (xCall T c 13 (aCons (xVar 2) (aCons (xVar 6) aNil))) (aCons (xCall T c 13 (aCons (xVar 3) (aCons (xVar 6) aNil))) aNil)))))) (sRet (xK (.bl false))) sNx))
noncomputable def sh4 (c : Fn) : Fs := (sIf (tOr (tNot (tOf (truD T c) (xCall T c 12 (aCons (xBi (bBool T c) (aCons (xVar 1) aNil)) (aCons (xBin (eqB T c true) (xVar 2) (xK (.int 0))) aNil))))) (tNot (tOf (truD T c) (xCall T c 14 (aCons (xMethW T c 45 (xVar 1) aNil) (aCons (xBin (binD T c .Sub) (xBi bInt (aCons (xBin (ordD T c .Gt) (xVar 2) (xK (.int 0))) aNil)) (xBi bInt (aCons (xBin (ordD T c .Lt) (xVar 2) (xK (.int 0))) aNil))) aNil)))))) (sRet (xK (.bl false))) sNx)
noncomputable def sh5 (c : Fn) : Fs := (sAsg (xCall T c 11 (aCons (xVar 2) (aCons (xVar 3) aNil))) (gNm 7))
noncomputable def sh6 (c : Fn) : Fs := (sAsg (xIf (tOf (truD T c) (xBin (eqB T c false) (xVar 3) (xVar 7))) (xBi (bStrO T c) (aCons (xBin (binD T c .FloorDiv) (xVar 2) (xVar 7)) aNil)) (xBin (binD T c .Add) (xBin (binD T c .Add) (xBi (bStrO T c) (aCons (xBin (binD T c .FloorDiv) (xVar 2) (xVar 7)) aNil)) (xK (.str "/"))) (xBi (bStrO T c) (aCons (xBin (binD T c .FloorDiv) (xVar 3) (xVar 7)) aNil)))) (gNm 8))
noncomputable def sh7 (c : Fn) : Fs := (sIf (tOr (tOf (truD T c) (xBin (eqB T c false) (xVar 1) (xVar 8))) (tOr (tOf (truD T c) (xBin (eqB T c false) (xVar 1) (xK .non))) (tOr (tOf (truD T c) (xBin (eqB T c false) (xVar 1) (xTup (aCons (xFld T c 40 (xVar 1)) (aCons (xFld T c 41 (xVar 1)) aNil))))) (tNot (tOf (truD T c) (xBin (eqB T c true) (xVar 1) (xK (.str "5")))))))) (sRet (xK (.bl false))) sNx)
noncomputable def sh8 (c : Fn) : Fs := (sIf (tOr (tOf (truD T c) (xBin (eqB T c true) (xBi (bStrO T c) (aCons (xVar 1) aNil)) (xVar 8))) (tNot (tOf (truD T c) (xCall T c 12 (aCons (xMethW T c 46 (xVar 1) aNil) (aCons (xBin (eqB T c false) (xVar 3) (xVar 7)) aNil)))))) (sRet (xK (.bl false))) sNx)
noncomputable def sh9 (c : Fn) : Fs := (sRet (xAnd (truD T c) (xCall T c 15 (aCons (xCall T c 3 (aCons (xVar 1) aNil)) (aCons (xVar 2) (aCons (xVar 3) aNil)))) (xCall T c 15 (aCons (xCall T c 3 (aCons (xVar 2) aNil)) (aCons (xVar 2) (aCons (xK (.int 1)) aNil))))))
theorem sh_eq (c : Fn) : B_22 c = sSeq (sh1 c) (sSeq (sh2 c) (sSeq (sh3 c) (sSeq (sh4 c) (sSeq (sh5 c) (sSeq (sh6 c) (sSeq (sh7 c) (sSeq (sh8 c) (sh9 c)))))))) := rfl
theorem lowest {n d : Int} (hd : 0 < d) : n = ((n : Rat) / d).num * (Int.gcd n d : Int) ∧ d = (((n : Rat) / d).den : Int) * (Int.gcd n d : Int) ∧ (0 : Int) < Int.gcd n d := by
  have h := num_over (show d ≠ 0 by omega) (rfl : (n : Rat) / d = (n : Rat) / d)
  generalize (n : Rat) / d = p at *
  have h1 : p.num.natAbs * d.natAbs = n.natAbs * p.den := by
    have := congrArg Int.natAbs h
    rwa [Int.natAbs_mul, Int.natAbs_mul, Int.natAbs_natCast] at this
  have h2 : p.den ∣ d.natAbs := (Nat.Coprime.symm p.reduced).dvd_of_dvd_mul_left (by rw [h1]; exact Nat.dvd_mul_left _ _)
  obtain ⟨k, hk⟩ := h2
  have hn : n.natAbs = p.num.natAbs * k := by
    refine Nat.eq_of_mul_eq_mul_right p.den_pos ?_
    rw [← h1, hk, Nat.mul_assoc, Nat.mul_comm k]
  have hg : Int.gcd n d = k := by
    show Nat.gcd n.natAbs d.natAbs = k
    have hr : Nat.gcd p.num.natAbs p.den = 1 := p.reduced
    rw [hn, hk, Nat.gcd_mul_right, hr, Nat.one_mul]
  have hk0 : 0 < k := by
    rcases Nat.eq_zero_or_pos k with z | z
    · rw [z] at hk
      omega
    · exact z
  have hd2 : d = (p.den : Int) * (k : Int) := by
    have : ((d.natAbs : Nat) : Int) = ((p.den * k : Nat) : Int) := by rw [hk]
    rw [Int.natCast_mul] at this
    omega
  refine ⟨?_, by rw [hg]; exact hd2, by rw [hg]; omega⟩
  rw [hg]
  have e : n * (p.den : Int) = (p.num * (k : Int)) * (p.den : Int) := by
    rw [← h, hd2]
    grind
  exact Int.eq_of_mul_eq_mul_right (by have := p.den_pos; omega) e
theorem pos_mul {x g : Int} (hg : 0 < g) : (0 < x * g ↔ 0 < x) ∧ (x * g < 0 ↔ x < 0) := by
  refine ⟨⟨fun h => ?_, fun h => Int.mul_pos h hg⟩, ⟨fun h => ?_, fun h => Int.mul_neg_of_neg_of_pos h hg⟩⟩
  · rcases Int.lt_or_le 0 x with k | k
    · exact k
    · have := Int.mul_nonneg (show 0 ≤ -x by omega) (Int.le_of_lt hg)
      rw [Int.neg_mul] at this
      omega
  · rcases Int.lt_or_le x 0 with k | k
    · exact k
    · have := Int.mul_nonneg k (Int.le_of_lt hg)
      omega
section
variable {c : Fn} {st : Store} {n d g w : Int} {p q r0 r1 r2 r3 r7 : Rat} {o2 o3 o4 o5 o6 o7 o8 : Option D} {b : Bool} {x : Str} {m : Nat}
theorem sh1_run : sh1 c (startE 9 [prD (n, d), rD p]) st = .nx [some (prD (n, d)), some (rD p), some (.int n), some (.int d), none, none, none, none, none] st := by
  simp [sh1, startE, prD]
def pws (p : Rat) : List D := [.tup [rD (p ^ 0), .int 0], .tup [rD (p ^ 1), .int 1], .tup [rD (p ^ 2), .int 2], .tup [rD (p ^ 3), .int 3], .tup [rD (p ^ 7), .int 7]]
theorem sh2_run (h : ∀ k : Nat, k ≤ 7 → binD T c .Pow (rD p) (.int k) st = .ok (rD (p ^ k)) st) : sh2 c [some (prD (n, d)), some (rD p), o2, o3, o4, o5, o6, o7, o8] st = .nx [some (prD (n, d)), some (rD p), o2, o3, some (.ref st.length), o5, o6, o7, o8] (st ++ [.lst (pws p)]) := by
  have h0 : binD T c .Pow (rD p) (.int 0) st = .ok (rD (p ^ 0)) st := h 0 (by decide)
  have h1 : binD T c .Pow (rD p) (.int 1) st = .ok (rD (p ^ 1)) st := h 1 (by decide)
  have h2 : binD T c .Pow (rD p) (.int 2) st = .ok (rD (p ^ 2)) st := h 2 (by decide)
  have h3 : binD T c .Pow (rD p) (.int 3) st = .ok (rD (p ^ 3)) st := h 3 (by decide)
  have h7 : binD T c .Pow (rD p) (.int 7) st = .ok (rD (p ^ 7)) st := h 7 (by decide)
  unfold pws
  generalize p ^ 0 = x0 at *
  generalize p ^ 1 = x1 at *
  generalize p ^ 2 = x2 at *
  generalize p ^ 3 = x3 at *
  generalize p ^ 7 = x7 at *
  simp [sh2, h0, h1, h2, h3, h7, newLst]
noncomputable def shB (c : Fn) : Fs := (sIf (tNot (tOf (truD T c) (xCall T c 15 (aCons (xVar 5) (aCons (xCall T c 13 (aCons (xVar 2) (aCons (xVar 6) aNil))) (aCons (xCall T c 13 (aCons (xVar 3) (aCons (xVar 6) aNil))) aNil)))))) (sRet (xK (.bl false))) sNx)
theorem sh3_eq (c : Fn) : sh3 c = sFor (iSeq (xSl (xVar 4) oNo (oSo (xCall T c 23 (aCons (xVar 0) aNil))))) (gTp (gsCons (gNm 5) (gsCons (gNm 6) gsNil))) (shB c) := rfl
theorem sh_loop {chk : Store → Prop} (hk : chk st) (h : ∀ k : Nat, k ≤ 7 → c 13 [.int n, .int k] st = .ok (.int (n ^ k)) st ∧ c 13 [.int d, .int k] st = .ok (.int (d ^ k)) st ∧ c 15 [rD (p ^ k), .int (n ^ k), .int (d ^ k)] st = .ok (.bl true) st) : ∀ (l : List Nat) (o5 o6 : Option D), (∀ k ∈ l, k ≤ 7) →
    ∃ o5' o6', forI chk (gTp (gsCons (gNm 5) (gsCons (gNm 6) gsNil))) (shB c) (l.map fun (k : Nat) => .tup [rD (p ^ k), .int k]) [some (prD (n, d)), some (rD p), some (.int n), some (.int d), o4, o5, o6, o7, o8] st = .nx [some (prD (n, d)), some (rD p), some (.int n), some (.int d), o4, o5', o6', o7, o8] st
  | [], o5, o6, _ => ⟨o5, o6, forI_end hk⟩
  | k :: l, o5, o6, hl => by
    obtain ⟨o5', o6', e⟩ := sh_loop hk h l (some (rD (p ^ k))) (some (.int k)) (fun j hj => hl j (List.mem_cons_of_mem _ hj))
    obtain ⟨h1, h2, h3⟩ := h k (hl k (List.mem_cons_self ..))
    refine ⟨o5', o6', ?_⟩
    have hs : shB c [some (prD (n, d)), some (rD p), some (.int n), some (.int d), o4, some (rD (p ^ k)), some (.int k), o7, o8] st = .nx [some (prD (n, d)), some (rD p), some (.int n), some (.int d), o4, some (rD (p ^ k)), some (.int k), o7, o8] st := by
      generalize p ^ k = y at *
      generalize n ^ k = y1 at *
      generalize d ^ k = y2 at *
      simp [shB, h1, h2, h3]
    rw [List.map_cons, forI_step hk rfl hs]
    exact e
theorem sh3_run (ks : List Nat) (hks : ks = [0, 1, 2, 3, 7] ∨ ks = [0, 1, 2, 3]) (hm : st[m]? = some (.lst (pws p))) (hf : c 23 [prD (n, d)] st = .ok (.int ks.length) st)
    (h : ∀ st', ∀ k : Nat, k ≤ 7 → c 13 [.int n, .int k] st' = .ok (.int (n ^ k)) st' ∧ c 13 [.int d, .int k] st' = .ok (.int (d ^ k)) st' ∧ c 15 [rD (p ^ k), .int (n ^ k), .int (d ^ k)] st' = .ok (.bl true) st') :
    ∃ o5' o6', sh3 c [some (prD (n, d)), some (rD p), some (.int n), some (.int d), some (.ref m), o5, o6, o7, o8] st = .nx [some (prD (n, d)), some (rD p), some (.int n), some (.int d), some (.ref m), o5', o6', o7, o8] (st ++ [.lst (ks.map fun (k : Nat) => .tup [rD (p ^ k), .int k])]) := by
  obtain ⟨o5', o6', e⟩ := sh_loop (o4 := some (.ref m)) (o7 := o7) (o8 := o8) (chk := fun s => s[st.length]? = some (.lst (ks.map fun (k : Nat) => .tup [rD (p ^ k), .int k]))) (at_end st _) (h (st ++ [.lst (ks.map fun (k : Nat) => .tup [rD (p ^ k), .int k])])) ks o5 o6 (by rcases hks with rfl | rfl <;> decide)
  refine ⟨o5', o6', ?_⟩
  have hc : Gm.cutD (pws p) none (some (ks.length : Int)) = ks.map fun (k : Nat) => .tup [rD (p ^ k), .int k] := by
    unfold Gm.cutD
    rw [show HT.sIx (pws p).length (pws p).length (some (ks.length : Int)) = min ks.length (pws p).length from HT.sIx_nat _ _ _, HT.sIx_none, List.drop_zero]
    rcases hks with rfl | rfl <;> rfl
  have hx : xSl (xVar 4) oNo (oSo (xCall T c 23 (aCons (xVar 0) aNil))) [some (prD (n, d)), some (rD p), some (.int n), some (.int d), some (.ref m), o5, o6, o7, o8] st = .ok (.ref st.length) (st ++ [.lst (ks.map fun (k : Nat) => .tup [rD (p ^ k), .int k])]) := by
    unfold xSl oSo
    simp [oNo, hf, sliD, hm, hc, newLst]
  rw [sh3_eq, for_of' (iSeq_st hx (at_end st _))]
  exact e
theorem sh4_run (h1 : bBool T c [rD p] st = .ok (.bl (!(n == 0))) st) (h2 : c 12 [.bl (!(n == 0)), .bl (!(n == 0))] st = .ok (.bl true) st) (h3 : c 51 [rD p] st = .ok (.int ((if 0 < n then 1 else 0) - (if n < 0 then 1 else 0))) st) (h4 : ∀ i : Int, c 14 [.int i, .int i] st = .ok (.bl true) st) :
    sh4 c [some (prD (n, d)), some (rD p), some (.int n), some (.int d), o4, o5, o6, o7, o8] st = .nx [some (prD (n, d)), some (rD p), some (.int n), some (.int d), o4, o5, o6, o7, o8] st := by
  have hb : ∀ b : Bool, bInt [.bl b] st = .ok (.int (if b then 1 else 0)) st := fun b => rfl
  by_cases k1 : 0 < n
  · have k2 : ¬ n < 0 := by omega
    simp only [k1, k2, if_true, if_false] at h3
    have h5 := h4 (1 - 0)
    simp at h5 h3
    simp [sh4, h1, h2, hm_sign, h3, hb, k1, k2, h5]
  · by_cases k2 : n < 0
    · simp only [k1, k2, if_true, if_false] at h3
      have h5 := h4 (-1)
      simp at h5 h3
      simp [sh4, h1, h2, hm_sign, h3, hb, k1, k2, h5]
    · simp only [k1, k2, if_false] at h3
      have h5 := h4 0
      simp at h5 h3
      simp [sh4, h1, h2, hm_sign, h3, hb, k1, k2, h5]
theorem sh5_run (h1 : c 11 [.int n, .int d] st = .ok (.int g) st) : sh5 c [some (prD (n, d)), some (rD p), some (.int n), some (.int d), o4, o5, o6, o7, o8] st = .nx [some (prD (n, d)), some (rD p), some (.int n), some (.int d), o4, o5, o6, some (.int g), o8] st := by
  simp [sh5, h1]
theorem sh7_run (h1 : eqB T c false (rD p) (.str x) st = .ok (.bl false) st) (h2 : eqB T c false (rD p) .non st = .ok (.bl false) st) (h3 : eqB T c false (rD p) (.tup [.int p.num, .int p.den]) st = .ok (.bl false) st) (h4 : eqB T c true (rD p) (.str "5") st = .ok (.bl true) st) :
    sh7 c [some (prD (n, d)), some (rD p), o2, o3, o4, o5, o6, o7, some (.str x)] st = .nx [some (prD (n, d)), some (rD p), o2, o3, o4, o5, o6, o7, some (.str x)] st := by
  simp [sh7, h1, h2, fd_top, fd_bottom, h3, h4]
theorem sh8_run (h1 : bStrO T c [rD p] st = .ok (.str x) st) (h2 : eqB T c true (.str x) (.str x) st = .ok (.bl false) st) (h3 : c 50 [rD p] st = .ok (.bl (d == g)) st) (h4 : c 12 [.bl (d == g), .bl (d == g)] st = .ok (.bl true) st) :
    sh8 c [some (prD (n, d)), some (rD p), some (.int n), some (.int d), o4, o5, o6, some (.int g), some (.str x)] st = .nx [some (prD (n, d)), some (rD p), some (.int n), some (.int d), o4, o5, o6, some (.int g), some (.str x)] st := by
  simp [sh8, h1, h2, hm_whole, h3, h4]
theorem sh9_run (h1 : c 3 [rD p] st = .ok (rD p) st) (h2 : c 15 [rD p, .int n, .int d] st = .ok (.bl true) st) (h3 : c 3 [.int n] st = .ok (rD q) st) (h4 : c 15 [rD q, .int n, .int 1] st = .ok (.bl true) st) :
    sh9 c [some (prD (n, d)), some (rD p), some (.int n), some (.int d), o4, o5, o6, o7, o8] st = .rt (.bl true) st := by
  simp [sh9, h1, h2, h3, h4]
end
end G08
namespace G08
open PySem PySem.Spec PyProof.Rows L2 Gm
section
variable (n : Nat) (x y z w : Rat) (st : Store)
theorem bBool_rD : bBool T (run (n + 1)) [rD x] st = .ok (.bl (decide (x ≠ 0))) st := by
  unfold rD bBool
  simp only [me_0_34]
  show (run (n + 1) 45 [rD x] st).bind _ = _
  rw [b_bool]
  rfl
end
theorem eq_txt {c : Fn} {st : Store} (neg : Bool) (x : Str) (hx : PyData.strOk x = true) : eqB T c neg (.str x) (.str x) st = .ok (.bl (!neg)) st := by
  have h : eqD T c 6 (.str x) (.str x) st = .ok true st := by
    simp [eqD, Gm.pyD, SeqAt.shaped, PyData.eqv]
    exact ⟨by simp [PyData.canLay0, hx], by simp [PyData.depth]⟩
  cases neg <;> simp [eqB, h]
end G08
namespace G08
open PySem PySem.Spec PyProof.Rows L2 Gm
theorem ok_of (s : String) : PyData.strOk (Str.ofString s) = true := by
  unfold PyData.strOk
  rw [Str.ofString_eq_toList, ← Array.all_toList, List.all_eq_true]
  intro x hx
  obtain ⟨c, _, rfl⟩ := List.mem_map.mp hx
  rw [decide_eq_true_eq]
  show c.val.toNat < 0x110000
  rcases c.valid with h | h
  · exact Nat.lt_trans h (by decide)
  · exact h.2
theorem ok_app (a b : Str) (ha : PyData.strOk a = true) (hb : PyData.strOk b = true) : PyData.strOk (a ++ b) = true := by
  unfold PyData.strOk at *
  rw [Str.cps_append, Array.all_append, ha, hb]
  rfl
theorem add_str {c : Fn} (x y : Str) (st : Store) (h : x.length + y.length ≤ sizeLine) : binD T c .Add (.str x) (.str y) st = .ok (.str (x ++ y)) st := if_pos ⟨rfl, h⟩
theorem int_str {c : Fn} {i : Int} (h : i.natAbs.log2 < 1920) (st : Store) : bStrO T c [.int i] st = .ok (.str (toString i)) st := if_pos h
section
variable {c : Fn} {st : Store} {n d g a b : Int} {p : Rat} {o2 o3 o4 o5 o6 o7 o8 : Option D} {x y : Str}
theorem sh6_1 (hz : (d == g) = true) (h1 : intBin .FloorDiv n g st = .ok (.int a) st) (h2 : bStrO T c [.int a] st = .ok (.str x) st) : sh6 c [some (prD (n, d)), some (rD p), some (.int n), some (.int d), o4, o5, o6, some (.int g), o8] st = .nx [some (prD (n, d)), some (rD p), some (.int n), some (.int d), o4, o5, o6, some (.int g), some (.str x)] st := by
  simp [sh6, hz, h1, h2]
theorem sh6_2 (hz : (d == g) = false) (h1 : intBin .FloorDiv n g st = .ok (.int a) st) (h2 : bStrO T c [.int a] st = .ok (.str x) st) (h3 : intBin .FloorDiv d g st = .ok (.int b) st) (h4 : bStrO T c [.int b] st = .ok (.str y) st) (z1 : binD T c .Add (.str x) (.str "/") st = .ok (.str (x ++ "/")) st) (z2 : binD T c .Add (.str (x ++ "/")) (.str y) st = .ok (.str (x ++ "/" ++ y)) st) :
    sh6 c [some (prD (n, d)), some (rD p), some (.int n), some (.int d), o4, o5, o6, some (.int g), o8] st = .nx [some (prD (n, d)), some (rD p), some (.int n), some (.int d), o4, o5, o6, some (.int g), some (.str (x ++ "/" ++ y))] st := by
  simp [sh6, hz, h1, h2, h3, h4, z1, z2]
end
theorem isnum_not (k : Nat) (z : D) (st : Store) (h1 : isoD T 0 z st = .ok (.bl false) st) (h2 : istD T "int" z st = .ok (.bl false) st) : run (k + 1) 0 [z] st = .ok (.bl false) st := by
  rw [run_0]
  refine fnD_rt0 ?_ (by simp)
  simp [B_0, startE, h1, h2]
theorem r_not (k : Nat) (p : Rat) (neg : Bool) (z : D) (st : Store) (hr : rhs T z = true) (h : run (k + 1) 0 [z] st = .ok (.bl false) st) : eqB T (run (k + 2)) neg (rD p) z st = .ok (.bl neg) st := by
  have h2 : run (k + 2) 27 [rD p, z] st = .ok (.bl false) st := by
    rw [run_27]
    refine fnD_rt0 ?_ (by simp)
    simp [B_27, startE, h]
  have e := eqB_own (c := run (k + 2)) (neg := neg) (i := 0) (f := 27) (ds := [.int p.num, .int p.den]) (d2 := z) (b := false) st rfl hr h2
  cases neg <;> exact e
theorem s_few (k : Nat) (n d : Int) (st : Store) : ∃ ks : List Nat, (ks = [0, 1, 2, 3, 7] ∨ ks = [0, 1, 2, 3]) ∧ run (k + 1) 23 [prD (n, d)] st = .ok (.int ks.length) st := by
  have hp : intBin .Pow 10 30 st = .ok (.int (10 ^ 30)) st := rfl
  have hab : bAbs [.int n] st = .ok (.int (n.natAbs : Int)) st := by
    show Res.ok (D.int (if n < 0 then -n else n)) st = _
    congr 2
    split <;> omega
  by_cases h : ((n.natAbs : Int) + d < 10 ^ 30)
  · refine ⟨_, .inl rfl, ?_⟩
    rw [run_23]
    refine fnD_rt0 ?_ (by simp)
    generalize (10 : Int) ^ 30 = W at *
    simp [B_23, startE, prD, -b_abs, hab, hp, h]
  · refine ⟨_, .inr rfl, ?_⟩
    rw [run_23]
    refine fnD_rt0 ?_ (by simp)
    generalize (10 : Int) ^ 30 = W at *
    simp [B_23, startE, prD, -b_abs, hab, hp, h]
theorem nz_dec {n d : Int} (F : Fr n d) : decide ((n : Rat) / d ≠ 0) = !(n == 0) := by
  by_cases h : n = 0
  · have : (n : Rat) / d = 0 := by
      have z : ((0 : Int) : Rat) = 0 := rfl
      rw [h, z]
      grind
    rw [this]
    simp [h]
  · have := fq0 h F.ne
    simp [this, h]
theorem s_shown (k : Nat) (n d : Int) (F : Fr n d) (st : Store) : run (k + 6) 22 [prD (n, d), rD ((n : Rat) / d)] st = .ok (.bl true) st := by
  have sp := F.sz
  have sp4 := sp.mono (b' := 4000) (by decide)
  obtain ⟨l1, l2, l3⟩ := lowest (n := n) F.pos
  have q := f_one n
  have hpow : ∀ (j : Nat), j ≤ 7 → binD T (run (k + 5)) .Pow (rD ((n : Rat) / d)) (.int j) st = .ok (rD (((n : Rat) / d) ^ j)) st := fun j hj => b_pow (k + 2) j st sp hj
  obtain ⟨ks, hks, hf⟩ := s_few (k + 4) n d (st ++ [.lst (pws ((n : Rat) / d))])
  have hl : ∀ st', ∀ j : Nat, j ≤ 7 → run (k + 5) 13 [.int n, .int j] st' = .ok (.int (n ^ j)) st' ∧ run (k + 5) 13 [.int d, .int j] st' = .ok (.int (d ^ j)) st' ∧ run (k + 5) 15 [rD (((n : Rat) / d) ^ j), .int (n ^ j), .int (d ^ j)] st' = .ok (.bl true) st' := fun st' j hj => by
    have e : ((n : Rat) / d) ^ j = ((n ^ j : Int) : Rat) / ((d ^ j : Int) : Rat) := by rw [Rat.intCast_pow, Rat.intCast_pow, fpow _ _ (q0 F.ne)]
    have n1 := (nb_pow F.n j).mono (b' := 2101) (by omega)
    have n2 := (nb_pow F.d j).mono (b' := 2101) (by omega)
    have n3 : Nb 100000 (n ^ j) := Nb.mono n1 (by omega)
    have n4 : Nb 100000 (d ^ j) := Nb.mono n2 (by omega)
    refine ⟨s_lpower (k + 4) j n 300 st' F.n (by omega) (by omega), s_lpower (k + 4) j d 300 st' F.d (by omega) (by omega), ?_⟩
    refine s_ratio_is (k + 3) (((n : Rat) / d) ^ j) (n ^ j) (d ^ j) st' (Int.pow_ne_zero F.ne) ?_ n3 n4 e
    rw [e]
    exact (sz_div n1 n2 (Int.pow_ne_zero F.ne)).mono (by decide)
  obtain ⟨o5, o6, a3⟩ := sh3_run (c := run (k + 5)) (n := n) (d := d) (p := (n : Rat) / d) (m := st.length) (o5 := none) (o6 := none) (o7 := none) (o8 := none) ks hks (at_end st _) hf hl
  have a1 := sh1_run (c := run (k + 5)) (st := st) (n := n) (d := d) (p := (n : Rat) / d)
  have a2 := sh2_run (n := n) (d := d) (o2 := some (.int n)) (o3 := some (.int d)) (o4 := none) (o5 := none) (o6 := none) (o7 := none) (o8 := none) hpow
  generalize hS : st ++ [Cell.lst (pws ((n : Rat) / d))] ++ [.lst (ks.map fun (j : Nat) => .tup [rD (((n : Rat) / d) ^ j), .int j])] = S at *
  have r1 := s_ratio_is (k + 3) ((n : Rat) / d) n d S F.ne (sp.mono (by decide)) (F.n.mono (by decide)) (F.d.mono (by decide)) rfl
  have r2 := s_ratio_is (k + 3) (n : Rat) n 1 S (by decide) ((Sz.int F.n (by decide)).mono (by decide)) (F.n.mono (by decide)) ((show Nb 1 (1 : Int) by unfold Nb; decide).mono (by decide)) q
  have hgcd := s_gcdL (k + 4) n d S (F.d.mono (by decide))
  have hbool := bBool_rD (k + 4) ((n : Rat) / d) S
  have hbz := nz_dec F
  rw [hbz] at hbool
  have hsig := s_sign (p := (n : Rat) / d) (k + 4) S
  have hwh := s_whole (p := (n : Rat) / d) (k + 4) S
  have sn : Nb 1900 ((n : Rat) / d).num := sp.num.mono (by decide)
  have sd : Nb 1900 (((n : Rat) / d).den : Int) := sp.den.mono (by decide)
  have hstr := s_str (p := (n : Rat) / d) (k + 3) S sn sd
  have hft := fd_top (run (k + 5)) ((n : Rat) / d) S
  have b1 := s_ratio_of (k + 4) ((n : Rat) / d) S
  have b2 := s_ratio_of_int (k + 2) n S
  have hno := fun (z : D) neg h1 h2 h3 => r_not (k + 3) ((n : Rat) / d) neg z S h3 (isnum_not (k + 3) z S h1 h2)
  have hdp : (0 : Int) < (((n : Rat) / d).den : Int) := Int.natCast_pos.mpr (Rat.den_pos _)
  have dn : Nb 9000 ((Int.gcd n d : Nat) : Int) := by
    refine Nat.lt_of_le_of_lt ?_ (F.d.mono (b' := 9000) (by decide))
    have : ((Int.gcd n d : Nat) : Int) ≤ d := by
      conv => rhs; rw [l2]
      have := Int.mul_le_mul_of_nonneg_right (show (1 : Int) ≤ (((n : Rat) / d).den : Int) by omega) (Int.le_of_lt l3)
      omega
    have := F.pos
    omega
  generalize hG : ((Int.gcd n d : Nat) : Int) = g at *
  have fn := ib_fdiv (st := S) (i := n) (j := g) ⟨by omega, log2_lt dn (by decide)⟩
  have fd := ib_fdiv (st := S) (i := d) (j := g) ⟨by omega, log2_lt dn (by decide)⟩
  have e1 : n.fdiv g = ((n : Rat) / d).num := by
    conv => lhs; rw [l1]
    exact Int.mul_fdiv_cancel _ (by omega)
  have e2 : d.fdiv g = (((n : Rat) / d).den : Int) := by
    conv => lhs; rw [l2]
    exact Int.mul_fdiv_cancel _ (by omega)
  rw [e1] at fn
  rw [e2] at fd
  have hsg : (if 0 < ((n : Rat) / d).num then (1 : Int) else if ((n : Rat) / d).num < 0 then -1 else 0) = (if 0 < n then 1 else 0) - (if n < 0 then 1 else 0) := by
    obtain ⟨p1, p2⟩ := pos_mul (x := ((n : Rat) / d).num) l3
    rw [← l1] at p1 p2
    by_cases h1 : 0 < n
    · have := p1.mp h1
      have h2 : ¬ n < 0 := by omega
      simp [h1, h2, this]
    · have k1 : ¬ 0 < ((n : Rat) / d).num := fun h => h1 (p1.mpr h)
      by_cases h2 : n < 0
      · have := p2.mp h2
        simp [h1, h2, k1, this]
      · have k2 : ¬ ((n : Rat) / d).num < 0 := fun h => h2 (p2.mpr h)
        simp [h1, h2, k1, k2]
  rw [hsg] at hsig
  have hdg : ((((n : Rat) / d).den : Int) == 1) = (d == g) := by
    by_cases h : (((n : Rat) / d).den : Int) = 1
    · have : d = g := by rw [h] at l2; omega
      rw [h, this]
      simp
    · have : ¬ d = g := fun e => h (by
        have h3 : (((n : Rat) / d).den : Int) * g = 1 * g := by omega
        exact Int.eq_of_mul_eq_mul_right (by omega) h3)
      rw [beq_eq_false_iff_ne.mpr h, beq_eq_false_iff_ne.mpr this]
  rw [hdg] at hwh
  obtain ⟨x, hx, a6, hx2⟩ : ∃ x : Str, PyData.strOk x = true ∧ sh6 (run (k + 5)) [some (prD (n, d)), some (rD ((n : Rat) / d)), some (.int n), some (.int d), some (.ref st.length), o5, o6, some (.int g), none] S = .nx [some (prD (n, d)), some (rD ((n : Rat) / d)), some (.int n), some (.int d), some (.ref st.length), o5, o6, some (.int g), some (.str x)] S ∧ bStrO T (run (k + 5)) [rD ((n : Rat) / d)] S = .ok (.str x) S := by
    have k1 : ((n : Rat) / d).num.natAbs.log2 < 1920 := log2_lt (sn.mono (b' := 1920) (by decide)) (by decide)
    have k2 : ((((n : Rat) / d).den : Int)).natAbs.log2 < 1920 := log2_lt (sd.mono (b' := 1920) (by decide)) (by decide)
    have z1 := int_text_len_1921 k1
    have z2 := int_text_len_1921 k2
    have t1 := int_str (c := run (k + 5)) k1 S
    have t2 := int_str (c := run (k + 5)) k2 S
    have y1 := ok_of (toString ((n : Rat) / d).num)
    have y2 := ok_of (toString (((n : Rat) / d).den : Int))
    have hdn : (((n : Rat) / d).den = 1) ↔ (d == g) = true := by
      rw [← hdg, beq_iff_eq]
      omega
    generalize Str.ofString (toString ((n : Rat) / d).num) = A at *
    generalize Str.ofString (toString (((n : Rat) / d).den : Int)) = B at *
    cases hz : (d == g) with
    | true =>
      rw [if_pos (hdn.mpr hz)] at hstr
      exact ⟨A, y1, sh6_1 hz fn t1, hstr⟩
    | false =>
      have hne : ¬ (((n : Rat) / d).den = 1) := fun e => by
        have := hdn.mp e
        rw [hz] at this
        cases this
      rw [if_neg hne, Str.empty_append] at hstr
      have w1 : A.length + ("/" : Str).length ≤ sizeLine := by rw [sizeLine_eq]; show A.length + 1 ≤ _; omega
      have w2 : (A ++ ("/" : Str)).length + B.length ≤ sizeLine := by rw [Str.length_append, sizeLine_eq]; show A.length + 1 + B.length ≤ _; omega
      exact ⟨A ++ "/" ++ B, ok_app _ _ (ok_app _ _ y1 (by decide +kernel)) y2, sh6_2 hz fn t1 fd t2 (add_str _ _ S w1) (add_str _ _ S w2), hstr⟩
  have fin := seq_step a1 (seq_step a2 (seq_step a3 (seq_step (sh4_run hbool (s_truth (k + 4) _ S) hsig (fun i => s_whole_is (k + 4) i S)) (seq_step (sh5_run hgcd) (seq_step a6 (seq_step (sh7_run (hno (.str x) false rfl rfl rfl) (hno .non false rfl rfl rfl) (hno (.tup _) false rfl rfl rfl) (hno (.str "5") true rfl rfl rfl)) (seq_step (sh8_run hx2 (eq_txt true x hx) hwh (s_truth (k + 4) _ S)) (sh9_run b1 r1 b2 r2))))))))
  rw [← hS, List.append_assoc] at fin
  rw [run_22, fnD_rt (by rw [sh_eq]; exact fin)]
  exact tidy_same (by simp)
end G08
namespace G08
open PySem PySem.Spec PyProof.Rows L2 Gm
section
variable {c : Fn} {st s1 s2 s3 s4 : Store} {o0 o1 o2 o3 o4 o5 o6 o7 o8 o9 o10 o11 o12 o13 : Option D} {a b d x0 y0 a' b' d' x0' y0' : Rat} {m m' : Nat} {v w z p q : Int × Int} {o k l : Int} {γ : List (Str × Addr)}
theorem rep_is {z : D} {st : Store} {p : PyData} (h : shR z st = some p) (hp : p.showable = true ∧ p.hasDict = false ∧ p.shown.length ≤ 100000 ∧ p.depth ≤ 50) : reprD z st = some p.shown := by
  unfold reprD
  rw [h]
  exact if_pos hp
end
theorem tidy_er0 {st : Store} {x : Exn} : tidy st (.err x st) = .err x st := by
  unfold tidy
  dsimp only
  split
  · rw [List.take_length]
  · rfl
end G08
namespace G08
open PySem PySem.Spec PyProof.Rows L2 Gm
theorem tidy_erL {st st' : Store} {x : Exn} (h : st'.length = st.length) : tidy st (.err x st') = .err x st' := by
  unfold tidy
  dsimp only
  split
  · rw [List.take_of_length_le (by omega)]
  · rfl
theorem forI_err {chk : Store → Prop} {g : Fg} {b : Fs} {d : D} {ds : List D} {ρ ρ1 ρ2 : Ev} {x : Exn} {st st1 st2 : Store} (hc : chk st) (hg : g d ρ st = .ok ρ1 st1) (hb : b ρ1 st1 = .err x ρ2 st2) : forI chk g b (d :: ds) ρ st = .err x ρ2 st2 := by
  unfold forI
  rw [if_pos hc]
  simp only [hg, hb]
theorem seq_err {f g : Fs} {ρ ρ' : Ev} {x : Exn} {st st' : Store} (h : f ρ st = .err x ρ' st') : sSeq f g ρ st = .err x ρ' st' := by
  show (f ρ st).seq g = _
  rw [h]
  rfl
theorem mkR_err {n : Nat} {d1 d2 : D} {st : Store} {x : Exn} {ρ : Ev} (h : B_26 (run n) (startE 5 [.ref st.length, d1, d2]) (st ++ [.ins 0 []]) = .err x ρ (st ++ [.ins 0 []])) (hx : noRefs st.length x.ds = true) :
    mkD T (run (n + 1)) 0 [d1, d2] st = .err x st := by
  have hi : callD T (run (n + 1)) 26 [.ref st.length, d1, d2] (st ++ [.ins 0 []]) = .err x (st ++ [.ins 0 []]) := by
    rw [cl_26_3, run_26]
    unfold fnD runB
    rw [h]
    exact tidy_erL rfl
  have hm : T.meth 0 37 = some 26 := rfl
  unfold mkD
  simp only [hm]
  unfold makeR
  rw [hi]
  dsimp only
  rw [tidy_err (Kept.rfl' st _) hx, List.take_left]
structure Odd (n : Nat) (z : D) : Prop where
  nr : z = .ref n ∨ ∀ k, noRef k z = true
  r : ∀ st, st[n]? = some (.lst []) → isoD T 0 z st = .ok (.bl false) st
  i : ∃ b1 b2 : Bool, (b1 && !b2) = false ∧ ∀ st, st[n]? = some (.lst []) → istD T "int" z st = .ok (.bl b1) st ∧ istD T "bool" z st = .ok (.bl b2) st
  t : ∃ t, PyData.strOk t = true ∧ ∀ st, st[n]? = some (.lst []) → reprD z st = some t
def odds (n : Nat) : List D := [.non, .bl true, .bl false, .str "1", .ref n, .tup [.int 1, .int 2], .str "1/2"]
theorem odd_is {z : D} {n : Nat} (hz : z ∈ odds n) : Odd n z := by
  unfold odds at hz
  simp at hz
  rcases hz with rfl | rfl | rfl | rfl | rfl | rfl | rfl
  · exact ⟨.inr fun _ => by simp, fun _ _ => rfl, ⟨false, false, rfl, fun _ _ => ⟨rfl, rfl⟩⟩, (PyData.none).shown, by decide +kernel, fun st _ => rep_is (p := PyData.none) rfl (by decide +kernel)⟩
  · exact ⟨.inr fun _ => by simp, fun _ _ => rfl, ⟨true, true, rfl, fun _ _ => ⟨rfl, rfl⟩⟩, (PyData.bool true).shown, by decide +kernel, fun st _ => rep_is (p := PyData.bool true) rfl (by decide +kernel)⟩
  · exact ⟨.inr fun _ => by simp, fun _ _ => rfl, ⟨true, true, rfl, fun _ _ => ⟨rfl, rfl⟩⟩, (PyData.bool false).shown, by decide +kernel, fun st _ => rep_is (p := PyData.bool false) rfl (by decide +kernel)⟩
  · exact ⟨.inr fun _ => by simp, fun _ _ => rfl, ⟨false, false, rfl, fun _ _ => ⟨rfl, rfl⟩⟩, (PyData.str "1").shown, by decide +kernel, fun st _ => rep_is (p := PyData.str "1") rfl (by decide +kernel)⟩
  · refine ⟨.inl rfl, fun st h => ?_, ⟨false, false, rfl, fun st h => ?_⟩, (PyData.list []).shown, by decide +kernel, fun st h => ?_⟩
    · unfold isoD clsD kindD
      simp [h]
    · unfold istD clsD kindD
      simp [h]
    · refine rep_is (p := .list []) ?_ (by decide +kernel)
      unfold shR
      simp only [h]
      rfl
  · exact ⟨.inr fun _ => by simp, fun _ _ => rfl, ⟨false, false, rfl, fun _ _ => ⟨rfl, rfl⟩⟩, (PyData.tuple [.int 1, .int 2]).shown, by decide +kernel, fun st _ => rep_is (p := PyData.tuple [.int 1, .int 2]) rfl (by decide +kernel)⟩
  · exact ⟨.inr fun _ => by simp, fun _ _ => rfl, ⟨false, false, rfl, fun _ _ => ⟨rfl, rfl⟩⟩, (PyData.str "1/2").shown, by decide +kernel, fun st _ => rep_is (p := PyData.str "1/2") rfl (by decide +kernel)⟩
theorem Odd.nr' {n : Nat} {z : D} (h : Odd n z) {st : Store} (hn : n < st.length) : noRef st.length z = true := by
  rcases h.nr with rfl | h
  · simp [hn]
  · exact h _
theorem ans_b (z : D) (st : Store) : ansH ⟨1, [z]⟩ st hs_17 = some (.tup [.str "refused", z]) := by
  simp [ansH, hs_17, tL, List.lookup, Hm.g, gTu, gCo, gIf, gI, gK, gF, gNi]
section
variable {n : Nat} {z : D} {st : Store}
theorem isnum_odd (N : Nat) (h : Odd n z) (hn : st[n]? = some (.lst [])) : run (N + 1) 0 [z] st = .ok (.bl false) st := by
  obtain ⟨b1, b2, hb, hi⟩ := h.i
  have h1 := h.r st hn
  obtain ⟨h2, h3⟩ := hi st hn
  rw [run_0]
  refine fnD_rt0 ?_ (by simp)
  cases b1
  · simp [B_0, startE, h1, h2]
  · cases b2
    · cases hb
    · simp [B_0, startE, h1, h2, h3]
theorem rof_err (N : Nat) (h : Odd n z) (hn : st[n]? = some (.lst [])) : run (N + 2) 3 [z] st = .err ⟨1, [z]⟩ st := by
  have h1 := h.r st hn
  have h2 := isnum_odd N h hn
  rw [run_3]
  have e : B_3 (run (N + 1)) (startE 1 [z]) st = .err ⟨1, [z]⟩ [some z] st := by
    simp [B_3, startE, h1, h2, sRaise]
  unfold fnD runB
  rw [e]
  exact tidy_er0
theorem over_err (N : Nat) (p : Rat) (h : Odd n z) (hn : st[n]? = some (.lst [])) : run (N + 3) 47 [rD p, z] st = .err ⟨1, [z]⟩ st := by
  have h2 := rof_err N h hn
  rw [run_47]
  have e : B_47 (run (N + 2)) (startE 3 [rD p, z]) st = .err ⟨1, [z]⟩ [some (rD p), some z, none] st := by
    simp [B_47, startE, h2]
  unfold fnD runB
  rw [e]
  exact tidy_er0
theorem mkR_e1 (N : Nat) (h : Odd n z) (hn : st[n]? = some (.lst [])) (w : D) : mkD T (run (N + 1)) 0 [z, w] st = .err ⟨1, [z]⟩ st := by
  have hl := (List.getElem?_eq_some_iff.mp hn).1
  obtain ⟨b1, b2, hb, hi⟩ := h.i
  obtain ⟨h2, h3⟩ := hi (st ++ [.ins 0 []]) (by rw [List.getElem?_append_left hl]; exact hn)
  refine mkR_err (ρ := [some (.ref st.length), some z, some w, some z, none]) ?_ (by simp [noRefs, h.nr' hl])
  refine seq_err ?_
  rw [for_of (iSeq_tup (ds := [z, w]) (by simp [startE]))]
  refine forI_err trivial rfl ?_
  cases b1
  · simp [startE, h2, sRaise]
  · cases b2
    · cases hb
    · simp [startE, h2, h3, sRaise]
theorem mkR_e2 (N : Nat) (h : Odd n z) (hn : st[n]? = some (.lst [])) (i : Int) : mkD T (run (N + 1)) 0 [.int i, z] st = .err ⟨1, [z]⟩ st := by
  have hl := (List.getElem?_eq_some_iff.mp hn).1
  obtain ⟨b1, b2, hb, hi⟩ := h.i
  obtain ⟨h2, h3⟩ := hi (st ++ [.ins 0 []]) (by rw [List.getElem?_append_left hl]; exact hn)
  refine mkR_err (ρ := [some (.ref st.length), some (.int i), some z, some z, none]) ?_ (by simp [noRefs, h.nr' hl])
  refine seq_err ?_
  rw [for_of (iSeq_tup (ds := [.int i, z]) (by simp [startE]))]
  rw [forI_step (ρ2 := [some (.ref st.length), some (.int i), some z, some (.int i), none]) (st2 := st ++ [.ins 0 []]) trivial rfl (by simp [startE])]
  refine forI_err trivial rfl ?_
  cases b1
  · simp [startE, h2, sRaise]
  · cases b2
    · cases hb
    · simp [startE, h2, h3, sRaise]
theorem mkR_e0 (N : Nat) (i : Int) : mkD T (run (N + 1)) 0 [.int i, .int 0] st = .err ⟨1, [.int 0]⟩ st := by
  refine mkR_err (ρ := [some (.ref st.length), some (.int i), some (.int 0), some (.int 0), none]) ?_ (by simp)
  refine seq_step (ρ' := [some (.ref st.length), some (.int i), some (.int 0), some (.int 0), none]) (st' := st ++ [.ins 0 []]) ?_ (seq_err ?_)
  · rw [for_of (iSeq_tup (ds := [.int i, .int 0]) (by simp [startE]))]
    rw [forI_step (ρ2 := [some (.ref st.length), some (.int i), some (.int 0), some (.int i), none]) (st2 := st ++ [.ins 0 []]) trivial rfl (by simp [startE]), forI_step (ρ2 := [some (.ref st.length), some (.int i), some (.int 0), some (.int 0), none]) (st2 := st ++ [.ins 0 []]) trivial rfl (by simp), forI_end trivial]
  · simp [sRaise]
end
end G08
namespace G08
open PySem PySem.Spec PyProof.Rows L2 Gm
theorem isN0 {d : D} (h : d = .int 0 ∨ d = rD 0) : IsN d 0 := by
  rcases h with rfl | rfl
  · exact .inr ⟨0, rfl, rfl⟩
  · exact .rD 0
section
variable {d : D} {p : Rat} (N : Nat) (st : Store)
theorem over_zero (h : IsN d 0) : run (N + 4) 47 [rD p, d] st = .err ⟨1, [d]⟩ st := by
  have h2 := s_rof N st h
  rw [run_47]
  have e : B_47 (run (N + 3)) (startE 3 [rD p, d]) st = .err ⟨1, [d]⟩ [some (rD p), some d, some (rD 0)] st := by
    simp [B_47, startE, h2, fd_top, sRaise]
  unfold fnD runB
  rw [e]
  exact tidy_er0
theorem fdiv_zero (h : IsN d 0) : binD T (run (N + 5)) .FloorDiv (rD p) d st = .err ⟨1, [d]⟩ st := by
  have key : run (N + 5) 38 [rD p, d] st = .err ⟨1, [d]⟩ st := by
    have h1 := over_zero (p := p) N st h
    have h3 := s_isnumN (N + 3) h st
    rw [run_38]
    have e : B_38 (run (N + 4)) (startE 2 [rD p, d]) st = .err ⟨1, [d]⟩ [some (rD p), some d] st := by
      simp [B_38, startE, h3, hm_over, h1]
    unfold fnD runB
    rw [e]
    exact tidy_er0
  rcases h with rfl | ⟨i, rfl, _⟩
  · exact (bin_own (f := 38) st rfl (by decide)).trans key
  · exact (bin_oi (f := 38) st rfl (by decide)).trans key
theorem mod_zero (h : IsN d 0) : binD T (run (N + 5)) .Mod (rD p) d st = .err ⟨1, [d]⟩ st := by
  have key : run (N + 5) 40 [rD p, d] st = .err ⟨1, [d]⟩ st := by
    have h1 := over_zero (p := p) N st h
    have h3 := s_isnumN (N + 3) h st
    rw [run_40]
    have e : B_40 (run (N + 4)) (startE 3 [rD p, d]) st = .err ⟨1, [d]⟩ [some (rD p), some d, none] st := by
      simp [B_40, startE, h3, hm_over, h1]
    unfold fnD runB
    rw [e]
    exact tidy_er0
  rcases h with rfl | ⟨i, rfl, _⟩
  · exact (bin_own (f := 40) st rfl (by decide)).trans key
  · exact (bin_oi (f := 40) st rfl (by decide)).trans key
theorem rfdiv_zero (j : Int) : binD T (run (N + 5)) .FloorDiv (.int j) (rD 0) st = .err ⟨1, [rD 0]⟩ st := by
  refine (bin_io st (f := 39) (g := 38) rfl rfl rfl).trans ?_
  show run (N + 5) 39 [rD 0, .int j] st = _
  have h1 := over_zero (p := (j : Rat)) N st (.rD 0)
  have h3 := s_isnum_int (N + 3) j st
  have h4 := s_ratio_of_int (N + 1) j st
  rw [run_39]
  have e : B_39 (run (N + 4)) (startE 2 [rD 0, .int j]) st = .err ⟨1, [rD 0]⟩ [some (rD 0), some (.int j)] st := by
    simp [-Rat.num_intCast, -Rat.den_intCast, B_39, startE, h3, h4, hm_over, h1]
  unfold fnD runB
  rw [e]
  exact tidy_er0
theorem rmod_zero (j : Int) : binD T (run (N + 5)) .Mod (.int j) (rD 0) st = .err ⟨1, [rD 0]⟩ st := by
  refine (bin_io st (f := 41) (g := 40) rfl rfl rfl).trans ?_
  show run (N + 5) 41 [rD 0, .int j] st = _
  have h1 := over_zero (p := (j : Rat)) N st (.rD 0)
  have h3 := s_isnum_int (N + 3) j st
  have h4 := s_ratio_of_int (N + 1) j st
  rw [run_41]
  have e : B_41 (run (N + 4)) (startE 3 [rD 0, .int j]) st = .err ⟨1, [rD 0]⟩ [some (rD 0), some (.int j), none] st := by
    simp [-Rat.num_intCast, -Rat.den_intCast, B_41, startE, h3, h4, hm_over, h1]
  unfold fnD runB
  rw [e]
  exact tidy_er0
end
theorem z_num (j : Int) : Rat.divInt 0 j = 0 := Rat.zero_divInt j
noncomputable def rf1 (c : Fn) : Fs := (sAsg (xCall T c 6 (aCons (xVar 0) (aCons (xLst (aCons (xK .non) (aCons (xK (.bl true)) (aCons (xK (.bl false)) (aCons (xK (.str "1")) (aCons (xLst aNil) (aCons (xTup (aCons (xK (.int 1)) (aCons (xK (.int 2)) aNil))) (aCons (xK (.str "1/2")) aNil)))))))) aNil))) (gNm 3))
noncomputable def rf2 (c : Fn) : Fs := (sAsg (xCall T c 10 (aCons (xVar 0) (aCons (xK (.int 40)) aNil))) (gNm 4))
noncomputable def rf3 (c : Fn) : Fs := (sAsg (xCall T c 6 (aCons (xVar 0) (aCons (xLst (aCons (xK (.int 0)) (aCons (xMk T c 0 (aCons (xK (.int 0)) aNil)) (aCons (xMk T c 0 (aCons (xK (.int 0)) (aCons (xK (.int 7)) aNil))) aNil)))) aNil))) (gNm 5))
noncomputable def rf4 (c : Fn) (γ : List (Str × Addr)) : Fs := (sAsg (xLst (aCons (xClo 0 lf_24_0 γ) (aCons (xClo 1 lf_24_1 γ) (aCons (xClo 2 lf_24_2 γ) (aCons (xClo 3 lf_24_3 γ) (aCons (xClo 4 lf_24_4 γ) (aCons (xClo 5 lf_24_5 γ) aNil))))))) (gNm 6))
noncomputable def rf5 (c : Fn) (γ : List (Str × Addr)) : Fs := (sFor (iRng (aCons (xK (.int 6)) aNil)) (gNm 7) (sSeq (sAsg (xLamV hs_17 (.tup [(.str "fine"), .non]) (bs_24 c) γ [] (xBin subD (xVar 6) (xVar 7))) (gNm 8)) (sIf (tOr (tOf (truD T c) (xBin (eqB T c true) (xBin subD (xVar 8) (xK (.int 0))) (xK (.str "refused")))) (tOf (truD T c) (xBin (eqB T c true) (xBi bRepr (aCons (xBin subD (xVar 8) (xK (.int 1))) aNil)) (xBi bRepr (aCons (xIf (tOf (truD T c) (xBin (ordD T c .Lt) (xVar 7) (xK (.int 5)))) (xVar 3) (xK (.int 0))) aNil))))) (sRet (xK (.bl false))) sNx)))
noncomputable def rf6 (c : Fn) (γ : List (Str × Addr)) : Fs := (sAsg (xLst (aCons (xClo 6 lf_24_6 γ) (aCons (xClo 7 lf_24_7 γ) (aCons (xClo 8 lf_24_8 γ) (aCons (xClo 9 lf_24_9 γ) (aCons (xClo 10 lf_24_10 γ) aNil)))))) (gNm 6))
noncomputable def rf7 (c : Fn) (γ : List (Str × Addr)) : Fs := (sFor (iSeq (xVar 6)) (gNm 9) (sSeq (sAsg (xLamV hs_17 (.tup [(.str "fine"), .non]) (bs_24 c) γ [] (xVar 9)) (gNm 8)) (sIf (tOr (tOf (truD T c) (xBin (eqB T c true) (xBin subD (xVar 8) (xK (.int 0))) (xK (.str "refused")))) (tOr (tNot (tOf (truD T c) (xBin (eqB T c false) (xBin subD (xVar 8) (xK (.int 1))) (xK (.int 0))))) (tOf (truD T c) (xIst T "bool" (xBin subD (xVar 8) (xK (.int 1))))))) (sRet (xK (.bl false))) sNx)))
noncomputable def rf8 (c : Fn) (γ : List (Str × Addr)) : Fs := (sAsg (xLst (aCons (xClo 11 lf_24_11 γ) (aCons (xClo 12 lf_24_12 γ) (aCons (xClo 13 lf_24_13 γ) (aCons (xClo 14 lf_24_14 γ) aNil))))) (gNm 6))
noncomputable def rf9 (c : Fn) (γ : List (Str × Addr)) : Fs := (sRet (xBin (eqB T c false) (xLc (iSeq (xVar 6)) (gNm 9) tTrue (xBin subT (xLamV hs_17 (.tup [(.str "fine"), .non]) (bs_24 c) γ [9] (xVar 9)) (xK (.int 0))) [9]) (xBin (binD T c .Mult) (xLst (aCons (xK (.str "fine")) aNil)) (xK (.int 4)))))
theorem rf_eq (c gc : Fn) (γ : List (Str × Addr)) : B_24 c gc γ = sSeq (rf1 c) (sSeq (rf2 c) (sSeq (rf3 c) (sSeq (rf4 c γ) (sSeq (rf5 c γ) (sSeq (rf6 c γ) (sSeq (rf7 c γ) (sSeq (rf8 c γ) (rf9 c γ)))))))) := rfl
section
variable {c : Fn} {st s1 : Store} {o0 o1 o2 o3 o4 o5 o6 o7 o8 o9 : Option D} {γ : List (Str × Addr)} {d z : D} {k : Int}
theorem rf1_run (h : c 6 [.ref 1, .ref (st.length + 1)] (st ++ [.lst [], .lst (odds st.length)]) = .ok d s1) : rf1 c [some (.ref 1), o1, o2, o3, o4, o5, o6, o7, o8, o9] st = .nx [some (.ref 1), o1, o2, some d, o4, o5, o6, o7, o8, o9] s1 := by
  have h' : c 6 [.ref 1, .ref (st.length + 1)] (st ++ [.lst [], .lst [.non, .bl true, .bl false, .str "1", .ref st.length, .tup [.int 1, .int 2], .str "1/2"]]) = .ok d s1 := h
  simp [rf1, newLst, h']
theorem rf2_run (h : c 10 [.ref 1, .int 40] st = .ok (.int k) s1) : rf2 c [some (.ref 1), o1, o2, o3, o4, o5, o6, o7, o8, o9] st = .nx [some (.ref 1), o1, o2, o3, some (.int k), o5, o6, o7, o8, o9] s1 := by
  simp [rf2, h]
theorem rf3_run (h1 : mkD T c 0 [.int 0] st = .ok (rD 0) st) (h2 : mkD T c 0 [.int 0, .int 7] st = .ok (rD 0) st) (h : c 6 [.ref 1, .ref st.length] (st ++ [.lst [.int 0, rD 0, rD 0]]) = .ok d s1) : rf3 c [some (.ref 1), o1, o2, o3, o4, o5, o6, o7, o8, o9] st = .nx [some (.ref 1), o1, o2, o3, o4, some d, o6, o7, o8, o9] s1 := by
  simp [rf3, newLst, h1, h2, h]
def kA (L : Nat) (γ : List (Str × Addr)) : Store := [.clo 0 lf_24_0 γ, .clo 1 lf_24_1 γ, .clo 2 lf_24_2 γ, .clo 3 lf_24_3 γ, .clo 4 lf_24_4 γ, .clo 5 lf_24_5 γ, .lst [.ref L, .ref (L + 1), .ref (L + 2), .ref (L + 3), .ref (L + 4), .ref (L + 5)]]
def kB (L : Nat) (γ : List (Str × Addr)) : Store := [.clo 6 lf_24_6 γ, .clo 7 lf_24_7 γ, .clo 8 lf_24_8 γ, .clo 9 lf_24_9 γ, .clo 10 lf_24_10 γ, .lst [.ref L, .ref (L + 1), .ref (L + 2), .ref (L + 3), .ref (L + 4)]]
def kC (L : Nat) (γ : List (Str × Addr)) : Store := [.clo 11 lf_24_11 γ, .clo 12 lf_24_12 γ, .clo 13 lf_24_13 γ, .clo 14 lf_24_14 γ, .lst [.ref L, .ref (L + 1), .ref (L + 2), .ref (L + 3)]]
theorem rf4_run : rf4 c γ [o0, o1, o2, o3, o4, o5, o6, o7, o8, o9] st = .nx [o0, o1, o2, o3, o4, o5, some (.ref (st.length + 6)), o7, o8, o9] (st ++ kA st.length γ) := by
  simp [rf4, xClo, newLst, kA, List.append_assoc]
theorem rf6_run : rf6 c γ [o0, o1, o2, o3, o4, o5, o6, o7, o8, o9] st = .nx [o0, o1, o2, o3, o4, o5, some (.ref (st.length + 5)), o7, o8, o9] (st ++ kB st.length γ) := by
  simp [rf6, xClo, newLst, kB, List.append_assoc]
theorem rf8_run : rf8 c γ [o0, o1, o2, o3, o4, o5, o6, o7, o8, o9] st = .nx [o0, o1, o2, o3, o4, o5, some (.ref (st.length + 4)), o7, o8, o9] (st ++ kC st.length γ) := by
  simp [rf8, xClo, newLst, kC, List.append_assoc]
end
end G08
namespace G08
open PySem PySem.Spec PyProof.Rows L2 Gm
theorem lamV_run {hs : List Hc} {d0 : D} {bs : List (LF × Fe)} {γ : List (Str × Addr)} {vs : List Nat} {fe f : Fe} {ρ : Ev} {st : Store} {m j : Nat} {F : LF} (h1 : fe ρ st = .ok (.ref m) st) (h2 : st[m]? = some (.clo j F γ)) (h3 : bs[j]? = some (F, f)) :
    xLamV hs d0 bs γ vs fe ρ st = xLam hs d0 f (wipeE ρ vs) st := by
  unfold xLamV
  rw [h1, Res.bind_ok]
  simp only [h2, h3, and_self, if_true]
section
variable {c : Fn} {st s1 s2 s3 s4 : Store} {o0 o1 o2 o3 o4 o5 o6 o7 o8 o9 o10 o11 o12 o13 : Option D} {a b d x0 y0 a' b' d' x0' y0' : Rat} {m m' : Nat} {v w z p q : Int × Int} {o k l : Int} {γ : List (Str × Addr)}
theorem lam_errS {hs : List Hc} {d0 d : D} {f : Fe} {x : Exn} {ρ : Ev} {st st' : Store} (h : f ρ st = .err x st') (ha : ansH x st' hs = some d) : xLam hs d0 f ρ st = .ok d st' := by
  unfold xLam
  rw [h]
  simp only [ha]
end
end G08
namespace G08
open PySem PySem.Spec PyProof.Rows L2 Gm
noncomputable def r5B (c : Fn) (γ : List (Str × Addr)) : Fs := (sSeq (sAsg (xLamV hs_17 (.tup [(.str "fine"), .non]) (bs_24 c) γ [] (xBin subD (xVar 6) (xVar 7))) (gNm 8)) (sIf (tOr (tOf (truD T c) (xBin (eqB T c true) (xBin subD (xVar 8) (xK (.int 0))) (xK (.str "refused")))) (tOf (truD T c) (xBin (eqB T c true) (xBi bRepr (aCons (xBin subD (xVar 8) (xK (.int 1))) aNil)) (xBi bRepr (aCons (xIf (tOf (truD T c) (xBin (ordD T c .Lt) (xVar 7) (xK (.int 5)))) (xVar 3) (xK (.int 0))) aNil))))) (sRet (xK (.bl false))) sNx))
noncomputable def r7B (c : Fn) (γ : List (Str × Addr)) : Fs := (sSeq (sAsg (xLamV hs_17 (.tup [(.str "fine"), .non]) (bs_24 c) γ [] (xVar 9)) (gNm 8)) (sIf (tOr (tOf (truD T c) (xBin (eqB T c true) (xBin subD (xVar 8) (xK (.int 0))) (xK (.str "refused")))) (tOr (tNot (tOf (truD T c) (xBin (eqB T c false) (xBin subD (xVar 8) (xK (.int 1))) (xK (.int 0))))) (tOf (truD T c) (xIst T "bool" (xBin subD (xVar 8) (xK (.int 1))))))) (sRet (xK (.bl false))) sNx))
theorem rf5_eq (c : Fn) (γ : List (Str × Addr)) : rf5 c γ = sFor (iRng (aCons (xK (.int 6)) aNil)) (gNm 7) (r5B c γ) := rfl
theorem rf7_eq (c : Fn) (γ : List (Str × Addr)) : rf7 c γ = sFor (iSeq (xVar 6)) (gNm 9) (r7B c γ) := rfl
def rfd (e : D) : D := .tup [.str "refused", e]
section
variable {c : Fn} {S : Store} {γ : List (Str × Addr)} {n d k : Int} {p : Rat} {z w e : D} {m : Nat} {o7 o8 o9 : Option D} {t : Str}
theorem r5_step (j : Int) (sel : D) (h1 : xLamV hs_17 (.tup [.str "fine", .non]) (bs_24 c) γ [] (xBin subD (xVar 6) (xVar 7)) [some (.ref 1), some (prD (n, d)), some (rD p), some z, some (.int k), some w, some (.ref m), some (.int j), o8, o9] S = .ok (rfd e) S) (hs : (if j < 5 then z else .int 0) = sel) (h2 : bRepr [e] S = .ok (.str t) S) (h3 : bRepr [sel] S = .ok (.str t) S) (ht : PyData.strOk t = true) : r5B c γ [some (.ref 1), some (prD (n, d)), some (rD p), some z, some (.int k), some w, some (.ref m), some (.int j), o8, o9] S = .nx [some (.ref 1), some (prD (n, d)), some (rD p), some z, some (.int k), some w, some (.ref m), some (.int j), some (rfd e), o9] S := by
  have q1 := eq_txt (c := c) (st := S) true "refused" (by decide +kernel)
  have q2 := eq_txt (c := c) (st := S) true t ht
  unfold rfd at h1 ⊢
  by_cases hj : j < 5
  · rw [if_pos hj] at hs
    subst hs
    simp [r5B, h1, q1, h2, hj, h3, q2]
  · rw [if_neg hj] at hs
    subst hs
    simp [r5B, h1, q1, h2, hj, h3, q2]
theorem r7_step (h1 : xLamV hs_17 (.tup [.str "fine", .non]) (bs_24 c) γ [] (xVar 9) [some (.ref 1), some (prD (n, d)), some (rD p), some z, some (.int k), some w, some (.ref m), o7, o8, o9] S = .ok (rfd e) S) (h2 : eqB T c false e (.int 0) S = .ok (.bl true) S) (h3 : istD T "bool" e S = .ok (.bl false) S) : r7B c γ [some (.ref 1), some (prD (n, d)), some (rD p), some z, some (.int k), some w, some (.ref m), o7, o8, o9] S = .nx [some (.ref 1), some (prD (n, d)), some (rD p), some z, some (.int k), some w, some (.ref m), o7, some (rfd e), o9] S := by
  have q1 := eq_txt (c := c) (st := S) true "refused" (by decide +kernel)
  unfold rfd at h1 ⊢
  simp [r7B, h1, q1, h2, h3]
end
section
variable {S : Store} {γ : List (Str × Addr)} {n d k : Int} {p : Rat} {z w : D} {o7 o8 o9 : Option D} {a : Nat}
theorem rf5_run (N : Nat) (hz : Odd a z) (hn : S[a]? = some (.lst [])) : ∃ o7' o8', rf5 (run (N + 5)) γ [some (.ref 1), some (prD (n, d)), some (rD p), some z, some (.int k), some w, some (.ref (S.length + 6)), o7, o8, o9] (S ++ kA S.length γ) = .nx [some (.ref 1), some (prD (n, d)), some (rD p), some z, some (.int k), some w, some (.ref (S.length + 6)), o7', o8', o9] (S ++ kA S.length γ) := by
  obtain ⟨t, ht, hr⟩ := hz.t
  have g0 : (S ++ kA S.length γ)[S.length]? = some (.clo 0 lf_24_0 γ) := by simp [kA]
  have g1 : (S ++ kA S.length γ)[S.length + 1]? = some (.clo 1 lf_24_1 γ) := by simp [kA]
  have g2 : (S ++ kA S.length γ)[S.length + 2]? = some (.clo 2 lf_24_2 γ) := by simp [kA]
  have g3 : (S ++ kA S.length γ)[S.length + 3]? = some (.clo 3 lf_24_3 γ) := by simp [kA]
  have g4 : (S ++ kA S.length γ)[S.length + 4]? = some (.clo 4 lf_24_4 γ) := by simp [kA]
  have g5 : (S ++ kA S.length γ)[S.length + 5]? = some (.clo 5 lf_24_5 γ) := by simp [kA]
  have g6 : (S ++ kA S.length γ)[S.length + 6]? = some (.lst [.ref S.length, .ref (S.length + 1), .ref (S.length + 2), .ref (S.length + 3), .ref (S.length + 4), .ref (S.length + 5)]) := by simp [kA]
  have gn : (S ++ kA S.length γ)[a]? = some (.lst []) := extD hn
  generalize hR : S ++ kA S.length γ = R at *
  have hz' : bRepr [z] R = .ok (.str t) R := by
    unfold bRepr
    simp only [hr _ gn]
  have h0 : bRepr [.int 0] R = .ok (.str (PyData.int 0).shown) R := by
    have e := rep_is (z := .int 0) (st := R) (p := PyData.int 0) rfl (by decide +kernel)
    unfold bRepr
    simp only [e]
  have ok0 : PyData.strOk (PyData.int 0).shown = true := by decide +kernel
  have x0 : ∀ o8 : Option D, xLamV hs_17 (.tup [.str "fine", .non]) (bs_24 (run (N + 5))) γ [] (xBin subD (xVar 6) (xVar 7)) [some (.ref 1), some (prD (n, d)), some (rD p), some z, some (.int k), some w, some (.ref (S.length + 6)), some (.int 0), o8, o9] R = .ok (rfd (z)) R := fun o8 => by
    have hs : subD (.ref (S.length + 6)) (.int 0) R = .ok (.ref (S.length)) R := by
      rw [subR g6]
      rfl
    refine (lamV_run (m := S.length) (j := 0) (F := lf_24_0) (by simp [hs]) g0 rfl).trans (lam_errS (x := ⟨1, [z]⟩) ?_ (ans_b _ R))
    have q := mkR_e1 (N + 4) hz gn (.int 3)
    simp [wipeE, q]
  have x1 : ∀ o8 : Option D, xLamV hs_17 (.tup [.str "fine", .non]) (bs_24 (run (N + 5))) γ [] (xBin subD (xVar 6) (xVar 7)) [some (.ref 1), some (prD (n, d)), some (rD p), some z, some (.int k), some w, some (.ref (S.length + 6)), some (.int 1), o8, o9] R = .ok (rfd (z)) R := fun o8 => by
    have hs : subD (.ref (S.length + 6)) (.int 1) R = .ok (.ref (S.length + 1)) R := by
      rw [subR g6]
      rfl
    refine (lamV_run (m := S.length + 1) (j := 1) (F := lf_24_1) (by simp [hs]) g1 rfl).trans (lam_errS (x := ⟨1, [z]⟩) ?_ (ans_b _ R))
    have q := mkR_e2 (N + 4) hz gn 3
    simp [wipeE, q]
  have x2 : ∀ o8 : Option D, xLamV hs_17 (.tup [.str "fine", .non]) (bs_24 (run (N + 5))) γ [] (xBin subD (xVar 6) (xVar 7)) [some (.ref 1), some (prD (n, d)), some (rD p), some z, some (.int k), some w, some (.ref (S.length + 6)), some (.int 2), o8, o9] R = .ok (rfd (z)) R := fun o8 => by
    have hs : subD (.ref (S.length + 6)) (.int 2) R = .ok (.ref (S.length + 2)) R := by
      rw [subR g6]
      rfl
    refine (lamV_run (m := S.length + 2) (j := 2) (F := lf_24_2) (by simp [hs]) g2 rfl).trans (lam_errS (x := ⟨1, [z]⟩) ?_ (ans_b _ R))
    have q := rof_err (N + 3) hz gn
    simp [wipeE, q]
  have x3 : ∀ o8 : Option D, xLamV hs_17 (.tup [.str "fine", .non]) (bs_24 (run (N + 5))) γ [] (xBin subD (xVar 6) (xVar 7)) [some (.ref 1), some (prD (n, d)), some (rD p), some z, some (.int k), some w, some (.ref (S.length + 6)), some (.int 3), o8, o9] R = .ok (rfd (z)) R := fun o8 => by
    have hs : subD (.ref (S.length + 6)) (.int 3) R = .ok (.ref (S.length + 3)) R := by
      rw [subR g6]
      rfl
    refine (lamV_run (m := S.length + 3) (j := 3) (F := lf_24_3) (by simp [hs]) g3 rfl).trans (lam_errS (x := ⟨1, [z]⟩) ?_ (ans_b _ R))
    have q := over_err (N + 2) p hz gn
    simp [wipeE, q, hm_over]
  have x4 : ∀ o8 : Option D, xLamV hs_17 (.tup [.str "fine", .non]) (bs_24 (run (N + 5))) γ [] (xBin subD (xVar 6) (xVar 7)) [some (.ref 1), some (prD (n, d)), some (rD p), some z, some (.int k), some w, some (.ref (S.length + 6)), some (.int 4), o8, o9] R = .ok (rfd (z)) R := fun o8 => by
    have hs : subD (.ref (S.length + 6)) (.int 4) R = .ok (.ref (S.length + 4)) R := by
      rw [subR g6]
      rfl
    refine (lamV_run (m := S.length + 4) (j := 4) (F := lf_24_4) (by simp [hs]) g4 rfl).trans (lam_errS (x := ⟨1, [z]⟩) ?_ (ans_b _ R))
    have q := mkR_e1 (N + 4) hz gn (.int 0)
    simp [wipeE, q]
  have x5 : ∀ o8 : Option D, xLamV hs_17 (.tup [.str "fine", .non]) (bs_24 (run (N + 5))) γ [] (xBin subD (xVar 6) (xVar 7)) [some (.ref 1), some (prD (n, d)), some (rD p), some z, some (.int k), some w, some (.ref (S.length + 6)), some (.int 5), o8, o9] R = .ok (rfd (.int 0)) R := fun o8 => by
    have hs : subD (.ref (S.length + 6)) (.int 5) R = .ok (.ref (S.length + 5)) R := by
      rw [subR g6]
      rfl
    refine (lamV_run (m := S.length + 5) (j := 5) (F := lf_24_5) (by simp [hs]) g5 rfl).trans (lam_errS (x := ⟨1, [.int 0]⟩) ?_ (ans_b _ R))
    have q := mkR_e0 (st := R) (N + 4) k
    simp [wipeE, q]
  refine ⟨some (.int 5), some (rfd (.int 0)), ?_⟩
  have hi : iRng (aCons (xK (.int 6)) aNil) [some (.ref 1), some (prD (n, d)), some (rD p), some z, some (.int k), some w, some (.ref (S.length + 6)), o7, o8, o9] R = .ok ([.int 0, .int 1, .int 2, .int 3, .int 4, .int 5], fun _ => True) R := rngI (f := xK (.int 6)) (b := 6) rfl (by decide) (by decide)
  rw [rf5_eq, for_of hi]
  rw [forI_step (ρ2 := [some (.ref 1), some (prD (n, d)), some (rD p), some z, some (.int k), some w, some (.ref (S.length + 6)), some (.int 0), some (rfd (z)), o9]) (st2 := R) trivial rfl (r5_step 0 (z) (x0 _) rfl hz' hz' ht)]
  rw [forI_step (ρ2 := [some (.ref 1), some (prD (n, d)), some (rD p), some z, some (.int k), some w, some (.ref (S.length + 6)), some (.int 1), some (rfd (z)), o9]) (st2 := R) trivial rfl (r5_step 1 (z) (x1 _) rfl hz' hz' ht)]
  rw [forI_step (ρ2 := [some (.ref 1), some (prD (n, d)), some (rD p), some z, some (.int k), some w, some (.ref (S.length + 6)), some (.int 2), some (rfd (z)), o9]) (st2 := R) trivial rfl (r5_step 2 (z) (x2 _) rfl hz' hz' ht)]
  rw [forI_step (ρ2 := [some (.ref 1), some (prD (n, d)), some (rD p), some z, some (.int k), some w, some (.ref (S.length + 6)), some (.int 3), some (rfd (z)), o9]) (st2 := R) trivial rfl (r5_step 3 (z) (x3 _) rfl hz' hz' ht)]
  rw [forI_step (ρ2 := [some (.ref 1), some (prD (n, d)), some (rD p), some z, some (.int k), some w, some (.ref (S.length + 6)), some (.int 4), some (rfd (z)), o9]) (st2 := R) trivial rfl (r5_step 4 (z) (x4 _) rfl hz' hz' ht)]
  rw [forI_step (ρ2 := [some (.ref 1), some (prD (n, d)), some (rD p), some z, some (.int k), some w, some (.ref (S.length + 6)), some (.int 5), some (rfd (.int 0)), o9]) (st2 := R) trivial rfl (r5_step 5 (.int 0) (x5 _) rfl h0 h0 ok0)]
  exact forI_end trivial
theorem rf7_run (N : Nat) (hw : IsN w 0) : ∃ o8' o9', rf7 (run (N + 5)) γ [some (.ref 1), some (prD (n, d)), some (rD p), some z, some (.int k), some w, some (.ref (S.length + 5)), o7, o8, o9] (S ++ kB S.length γ) = .nx [some (.ref 1), some (prD (n, d)), some (rD p), some z, some (.int k), some w, some (.ref (S.length + 5)), o7, o8', o9'] (S ++ kB S.length γ) := by
  have g0 : (S ++ kB S.length γ)[S.length]? = some (.clo 6 lf_24_6 γ) := by simp [kB]
  have g1 : (S ++ kB S.length γ)[S.length + 1]? = some (.clo 7 lf_24_7 γ) := by simp [kB]
  have g2 : (S ++ kB S.length γ)[S.length + 2]? = some (.clo 8 lf_24_8 γ) := by simp [kB]
  have g3 : (S ++ kB S.length γ)[S.length + 3]? = some (.clo 9 lf_24_9 γ) := by simp [kB]
  have g4 : (S ++ kB S.length γ)[S.length + 4]? = some (.clo 10 lf_24_10 γ) := by simp [kB]
  have g6 : (S ++ kB S.length γ)[S.length + 5]? = some (.lst [.ref S.length, .ref (S.length + 1), .ref (S.length + 2), .ref (S.length + 3), .ref (S.length + 4)]) := by simp [kB]
  generalize hR : S ++ kB S.length γ = R at *
  have mk0 : mkD T (run (N + 5)) 0 [.int 0] R = .ok (rD 0) R := s_mk1 (N + 3) 0 R
  have mk5 : mkD T (run (N + 5)) 0 [.int 0, .int 5] R = .ok (rD 0) R := by
    have := s_mk (N + 3) 0 5 R (by decide) (by unfold Nb; decide)
    rwa [z_num] at this
  have eR : eqB T (run (N + 5)) false (rD 0) (.int 0) R = .ok (.bl true) R := by
    have := b_eq_i (N + 1) (0 : Rat) 0 R false
    rw [this]
    simp
  have iR : istD T "bool" (rD 0) R = .ok (.bl false) R := by simp [rD]
  have eW : eqB T (run (N + 5)) false w (.int 0) R = .ok (.bl true) R ∧ istD T "bool" w R = .ok (.bl false) R := by
    rcases hw with rfl | ⟨i, rfl, hi⟩
    · exact ⟨eR, iR⟩
    · have : i = 0 := by
        have h : ((0 : Int) : Rat) = (i : Rat) := hi
        exact (Rat.intCast_inj.mp h).symm
      subst this
      exact ⟨by simp, rfl⟩
  have x0 : ∀ o8 : Option D, xLamV hs_17 (.tup [.str "fine", .non]) (bs_24 (run (N + 5))) γ [] (xVar 9) [some (.ref 1), some (prD (n, d)), some (rD p), some z, some (.int k), some w, some (.ref (S.length + 5)), o7, o8, some (.ref (S.length))] R = .ok (rfd (w)) R := fun o8 => by
    refine (lamV_run (m := S.length) (j := 6) (F := lf_24_6) (by simp) g0 rfl).trans (lam_errS (x := ⟨1, [w]⟩) ?_ (ans_b _ R))
    have q := over_zero (N + 1) R (p := p) hw
    simp [wipeE, q, hm_over]
  have x1 : ∀ o8 : Option D, xLamV hs_17 (.tup [.str "fine", .non]) (bs_24 (run (N + 5))) γ [] (xVar 9) [some (.ref 1), some (prD (n, d)), some (rD p), some z, some (.int k), some w, some (.ref (S.length + 5)), o7, o8, some (.ref (S.length + 1))] R = .ok (rfd (w)) R := fun o8 => by
    refine (lamV_run (m := S.length + 1) (j := 7) (F := lf_24_7) (by simp) g1 rfl).trans (lam_errS (x := ⟨1, [w]⟩) ?_ (ans_b _ R))
    have q := fdiv_zero N R (p := p) hw
    simp [wipeE, q]
  have x2 : ∀ o8 : Option D, xLamV hs_17 (.tup [.str "fine", .non]) (bs_24 (run (N + 5))) γ [] (xVar 9) [some (.ref 1), some (prD (n, d)), some (rD p), some z, some (.int k), some w, some (.ref (S.length + 5)), o7, o8, some (.ref (S.length + 2))] R = .ok (rfd (w)) R := fun o8 => by
    refine (lamV_run (m := S.length + 2) (j := 8) (F := lf_24_8) (by simp) g2 rfl).trans (lam_errS (x := ⟨1, [w]⟩) ?_ (ans_b _ R))
    have q := mod_zero N R (p := p) hw
    simp [wipeE, q]
  have x3 : ∀ o8 : Option D, xLamV hs_17 (.tup [.str "fine", .non]) (bs_24 (run (N + 5))) γ [] (xVar 9) [some (.ref 1), some (prD (n, d)), some (rD p), some z, some (.int k), some w, some (.ref (S.length + 5)), o7, o8, some (.ref (S.length + 3))] R = .ok (rfd (rD 0)) R := fun o8 => by
    refine (lamV_run (m := S.length + 3) (j := 9) (F := lf_24_9) (by simp) g3 rfl).trans (lam_errS (x := ⟨1, [rD 0]⟩) ?_ (ans_b _ R))
    have q := rfdiv_zero N R k
    simp [wipeE, q, mk0]
  have x4 : ∀ o8 : Option D, xLamV hs_17 (.tup [.str "fine", .non]) (bs_24 (run (N + 5))) γ [] (xVar 9) [some (.ref 1), some (prD (n, d)), some (rD p), some z, some (.int k), some w, some (.ref (S.length + 5)), o7, o8, some (.ref (S.length + 4))] R = .ok (rfd (rD 0)) R := fun o8 => by
    refine (lamV_run (m := S.length + 4) (j := 10) (F := lf_24_10) (by simp) g4 rfl).trans (lam_errS (x := ⟨1, [rD 0]⟩) ?_ (ans_b _ R))
    have q := rmod_zero N R k
    simp [wipeE, q, mk5]
  refine ⟨some (rfd (rD 0)), some (.ref (S.length + 4)), ?_⟩
  rw [rf7_eq, for_of (iSeq_st (f := xVar 6) (m := S.length + 5) (by simp) g6)]
  rw [forI_step (ρ2 := [some (.ref 1), some (prD (n, d)), some (rD p), some z, some (.int k), some w, some (.ref (S.length + 5)), o7, some (rfd (w)), some (.ref (S.length))]) (st2 := R) g6 rfl (r7_step (x0 _) eW.1 eW.2)]
  rw [forI_step (ρ2 := [some (.ref 1), some (prD (n, d)), some (rD p), some z, some (.int k), some w, some (.ref (S.length + 5)), o7, some (rfd (w)), some (.ref (S.length + 1))]) (st2 := R) g6 rfl (r7_step (x1 _) eW.1 eW.2)]
  rw [forI_step (ρ2 := [some (.ref 1), some (prD (n, d)), some (rD p), some z, some (.int k), some w, some (.ref (S.length + 5)), o7, some (rfd (w)), some (.ref (S.length + 2))]) (st2 := R) g6 rfl (r7_step (x2 _) eW.1 eW.2)]
  rw [forI_step (ρ2 := [some (.ref 1), some (prD (n, d)), some (rD p), some z, some (.int k), some w, some (.ref (S.length + 5)), o7, some (rfd (rD 0)), some (.ref (S.length + 3))]) (st2 := R) g6 rfl (r7_step (x3 _) eR iR)]
  rw [forI_step (ρ2 := [some (.ref 1), some (prD (n, d)), some (rD p), some z, some (.int k), some w, some (.ref (S.length + 5)), o7, some (rfd (rD 0)), some (.ref (S.length + 4))]) (st2 := R) g6 rfl (r7_step (x4 _) eR iR)]
  exact forI_end g6
end
end G08
namespace G08
open PySem PySem.Spec PyProof.Rows L2 Gm
theorem lcI_map {α : Type} {f : Fe} {i : Nat} {ρ : Ev} {chk : Store → Prop} {st : Store} {en out : α → D} (hc : ∀ e, chk (st ++ e)) : ∀ (l : List α) (acc : List D), (∀ x ∈ l, ∀ e, f (ρ.set i (some (en x))) (st ++ e) = .ok (out x) (st ++ e)) → acc.length + l.length ≤ sizeLine →
    lcI chk (gNm i) tTrue f st.length (l.map en) ρ (st ++ [.lst acc]) = .ok (.ref st.length) (st ++ [.lst (acc ++ l.map out)])
  | [], acc, _, _ => by
    rw [List.map_nil]
    unfold lcI
    rw [if_pos (hc _)]
    simp
  | d :: ds, acc, hf, hl => by
    rw [List.length_cons] at hl
    have h2 := hf d List.mem_cons_self [.lst acc]
    rw [List.map_cons]
    unfold lcI
    rw [if_pos (hc _)]
    simp only [ap_gNm, ap_tTrue, h2, at_end, set_end]
    rw [if_pos (by omega)]
    have h3 := lcI_map hc ds (acc ++ [out d]) (fun d hd => hf d (List.mem_cons_of_mem _ hd)) (by rw [List.length_append, List.length_singleton]; omega)
    rw [h3, List.append_assoc]
    rfl
theorem shaped_of {p : PyData} (k1 : PyData.canLay0 p = true) (k2 : PyData.depth p ≤ 9) : SeqAt.shaped p = true := by
  unfold SeqAt.shaped
  rw [k1, decide_eq_true (show PyData.depth p ≤ 64 by omega)]
  rfl
theorem lc_map {α : Type} {fi : Fi} {f : Fe} {i : Nat} {vs : List Nat} {ρ : Ev} {st : Store} {l : List α} {chk : Store → Prop} {en out : α → D} (hi : fi ρ st = .ok (l.map en, chk) st) (hc : ∀ e, chk (st ++ e))
    (hf : ∀ x ∈ l, ∀ e, f ((wipeE ρ vs).set i (some (en x))) (st ++ e) = .ok (out x) (st ++ e)) (hl : l.length < 100) :
    xLc fi (gNm i) tTrue f vs ρ st = .ok (.ref st.length) (st ++ [.lst (l.map out)]) := by
  have h := lcI_map (chk := chk) hc l [] hf (Nat.le_trans (by simp; omega : _ ≤ 100) (by decide))
  unfold xLc
  rw [hi, Res.bind_ok]
  rw [List.nil_append] at h
  exact h
theorem get1 (st e : Store) (a : Cell) : (st ++ a :: e)[st.length]? = some a := by
  rw [List.getElem?_append_right (by omega), Nat.sub_self]
  rfl
end G08
namespace G08
open PySem PySem.Spec PyProof.Rows L2 Gm
theorem lam_ok {hs : List Hc} {d0 v : D} {f : Fe} {ρ : Ev} {st st' : Store} (h : f ρ st = .ok v st') : xLam hs d0 f ρ st = .ok d0 st' := by
  unfold xLam
  rw [h]
theorem eq_datX (c : Fn) (neg : Bool) {d1 d2 : D} {S : Store} (p q : PyData) (h1 : Gm.pyD 6 S d1 = some p) (h2 : Gm.pyD 6 S d2 = some q) (s1 : SeqAt.shaped p = true) (s2 : SeqAt.shaped q = true) (hd : ∀ i ds, d1 ≠ .obj i ds) : eqB T c neg d1 d2 S = .ok (.bl (PyData.eqv p q != neg)) S := by
  unfold eqB eqD
  cases d1 with
  | obj i ds => exact absurd rfl (hd i ds)
  | _ => simp only [h1, h2, s1, s2, and_self, if_true]; rfl
theorem eq_strs4 {c : Fn} {st : Store} {i j : Nat} {t : Str} (ht : PyData.strOk t = true) (h1 : st[i]? = some (.lst [.str t, .str t, .str t, .str t])) (h2 : st[j]? = some (.lst [.str t, .str t, .str t, .str t])) : eqB T c false (.ref i) (.ref j) st = .ok (.bl true) st := by
  have hp : ∀ k, st[k]? = some (.lst [.str t, .str t, .str t, .str t]) → Gm.pyD 6 st (.ref k) = some (.list [.str t, .str t, .str t, .str t]) := fun k hk => by
    simp [Gm.pyD, hk]
  have hs : SeqAt.shaped (PyData.list [.str t, .str t, .str t, .str t]) = true := shaped_of (by simp [PyData.canLay0, PyData.canLayAll0, ht]) (by simp [PyData.depth, PyData.depthAll])
  rw [eq_datX c false _ _ (hp i h1) (hp j h2) hs hs (fun _ _ h => by cases h)]
  simp [PyData.eqv, PyData.eqvAll]
section
variable {S : Store} {γ : List (Str × Addr)} {n d k : Int} {p : Rat} {z w : D} {o7 o8 o9 : Option D} {a : Nat}
theorem rf9_run (N : Nat) (hp : Sz 4000 p) (hd : d ≠ 0) (bd : Nb 4000 d) : ∃ e, rf9 (run (N + 5)) γ [some (.ref 1), some (prD (n, d)), some (rD p), some z, some (.int k), some w, some (.ref (S.length + 4)), o7, o8, o9] (S ++ kC S.length γ) = .rt (.bl true) (S ++ kC S.length γ ++ e) := by
  have g0 : (S ++ kC S.length γ)[S.length]? = some (.clo 11 lf_24_11 γ) := by simp [kC]
  have g1 : (S ++ kC S.length γ)[S.length + 1]? = some (.clo 12 lf_24_12 γ) := by simp [kC]
  have g2 : (S ++ kC S.length γ)[S.length + 2]? = some (.clo 13 lf_24_13 γ) := by simp [kC]
  have g3 : (S ++ kC S.length γ)[S.length + 3]? = some (.clo 14 lf_24_14 γ) := by simp [kC]
  have g6 : (S ++ kC S.length γ)[S.length + 4]? = some (.lst [.ref S.length, .ref (S.length + 1), .ref (S.length + 2), .ref (S.length + 3)]) := by simp [kC]
  generalize hR : S ++ kC S.length γ = R at *
  have mk0 : ∀ st, mkD T (run (N + 5)) 0 [.int 0] st = .ok (rD 0) st := fun st => s_mk1 (N + 3) 0 st
  have mk3 : ∀ st, mkD T (run (N + 5)) 0 [.int 0, .int 3] st = .ok (rD 0) st := fun st => by
    have := s_mk (N + 3) 0 3 st (by decide) (by unfold Nb; decide)
    rwa [z_num] at this
  have m13 : ∀ st, mkD T (run (N + 5)) 0 [.int 1, .int 3] st = .ok (rD (Rat.divInt 1 3)) st := fun st => s_mk (N + 3) 1 3 st (by decide) (by unfold Nb; decide)
  have s0 : ∀ b, 0 < b → Sz b (0 : Rat) := fun b hb => Sz.zero b hb
  have s13 : Sz 2 (Rat.divInt 1 3) := Sz.of (by unfold Nb; decide) (by unfold Nb; decide) (by decide)
  have h13 : (Rat.divInt 1 3) ≠ 0 := by decide +kernel
  have pw2 : ∀ st, binD T (run (N + 5)) .Pow (rD 0) (.int 2) st = .ok (rD (0 ^ 2)) st := fun st => b_pow (N + 2) 2 st (s0 300 (by decide)) (by decide)
  have pw0 : ∀ st, binD T (run (N + 5)) .Pow (rD 0) (.int 0) st = .ok (rD (0 ^ 0)) st := fun st => b_pow (N + 2) 0 st (s0 300 (by decide)) (by decide)
  have fd0 : ∀ st, binD T (run (N + 5)) .FloorDiv (rD 0) (rD (Rat.divInt 1 3)) st = .ok (.int (fl (0 / Rat.divInt 1 3))) st := fun st => b_fdivN N st (.rD _) (s0 4000 (by decide)) (s13.mono (by decide)) h13 ((Sz_div (s0 2 (by decide)) s13 h13).mono (by decide))
  have qd : (d : Rat) ≠ 0 := q0 hd
  have ov : ∀ st, run (N + 5) 47 [rD p, .int d] st = .ok (rD (p / (d : Rat))) st := fun st => s_overN (N + 1) st (.int d) hp (.int bd (by decide)) qd
  have hi := iSeq_st (f := xVar 6) (ρ := [some (.ref 1), some (prD (n, d)), some (rD p), some z, some (.int k), some w, some (.ref (S.length + 4)), o7, o8, o9]) (st := R) (by simp) g6
  have hA : xLc (iSeq (xVar 6)) (gNm 9) tTrue (xBin subT (xLamV hs_17 (.tup [(.str "fine"), .non]) (bs_24 (run (N + 5))) γ [9] (xVar 9)) (xK (.int 0))) [9] [some (.ref 1), some (prD (n, d)), some (rD p), some z, some (.int k), some w, some (.ref (S.length + 4)), o7, o8, o9] R = .ok (.ref R.length) (R ++ [.lst [.str "fine", .str "fine", .str "fine", .str "fine"]]) := by
    refine lc_map (l := [S.length, S.length + 1, S.length + 2, S.length + 3]) (en := D.ref) (out := fun _ => .str "fine") hi (fun e => extD g6) (fun j hj e => ?_) (by simp)
    simp only [List.mem_cons, List.not_mem_nil, or_false] at hj
    have fin : ∀ ρ : Ev, xLamV hs_17 (.tup [(.str "fine"), .non]) (bs_24 (run (N + 5))) γ [9] (xVar 9) ρ (R ++ e) = .ok (.tup [.str "fine", .non]) (R ++ e) → xBin subT (xLamV hs_17 (.tup [(.str "fine"), .non]) (bs_24 (run (N + 5))) γ [9] (xVar 9)) (xK (.int 0)) ρ (R ++ e) = .ok (.str "fine") (R ++ e) := fun ρ h => by
      show (xLamV _ _ _ _ _ _ ρ (R ++ e)).bind _ = _
      rw [h]
      rfl
    refine fin _ ?_
    rcases hj with rfl | rfl | rfl | rfl
    · refine (lamV_run (m := S.length) (j := 11) (F := lf_24_11) rfl (extD g0) rfl).trans (lam_ok (v := rD (p / (d : Rat))) ?_)
      show (xMethW T (run (N + 5)) 44 (xVar 2) (aCons (xBin subD (xVar 1) (xK (.int 1))) aNil)) [some (.ref 1), some (prD (n, d)), some (rD p), some z, some (.int k), some w, some (.ref (S.length + 4)), o7, o8, none] (R ++ e) = _
      simp [pr_1, hm_over, ov]
    · refine (lamV_run (m := S.length + 1) (j := 12) (F := lf_24_12) rfl (extD g1) rfl).trans (lam_ok (v := rD (0 ^ 2)) ?_)
      show (xBin (binD T (run (N + 5)) .Pow) (xMk T (run (N + 5)) 0 (aCons (xK (.int 0)) (aCons (xK (.int 3)) aNil))) (xK (.int 2))) [some (.ref 1), some (prD (n, d)), some (rD p), some z, some (.int k), some w, some (.ref (S.length + 4)), o7, o8, none] (R ++ e) = _
      simp [mk3, pw2]
    · refine (lamV_run (m := S.length + 2) (j := 13) (F := lf_24_13) rfl (extD g2) rfl).trans (lam_ok (v := .int (fl (0 / Rat.divInt 1 3))) ?_)
      show (xBin (binD T (run (N + 5)) .FloorDiv) (xMk T (run (N + 5)) 0 (aCons (xK (.int 0)) aNil)) (xMk T (run (N + 5)) 0 (aCons (xK (.int 1)) (aCons (xK (.int 3)) aNil)))) [some (.ref 1), some (prD (n, d)), some (rD p), some z, some (.int k), some w, some (.ref (S.length + 4)), o7, o8, none] (R ++ e) = _
      simp [mk0, m13, fd0]
    · refine (lamV_run (m := S.length + 3) (j := 14) (F := lf_24_14) rfl (extD g3) rfl).trans (lam_ok (v := rD (0 ^ 0)) ?_)
      show (xBin (binD T (run (N + 5)) .Pow) (xMk T (run (N + 5)) 0 (aCons (xK (.int 0)) aNil)) (xK (.int 0))) [some (.ref 1), some (prD (n, d)), some (rD p), some z, some (.int k), some w, some (.ref (S.length + 4)), o7, o8, none] (R ++ e) = _
      simp [mk0, pw0]
  let Z : Store := [.lst [.str "fine", .str "fine", .str "fine", .str "fine"], .lst [.str "fine"], .lst [.str "fine", .str "fine", .str "fine", .str "fine"]]
  have hB : (xBin (binD T (run (N + 5)) .Mult) (xLst (aCons (xK (.str "fine")) aNil)) (xK (.int 4))) [some (.ref 1), some (prD (n, d)), some (rD p), some z, some (.int k), some w, some (.ref (S.length + 4)), o7, o8, o9] (R ++ [.lst [.str "fine", .str "fine", .str "fine", .str "fine"]]) = .ok (.ref (R.length + 2)) (R ++ Z) := by
    have q : binD T (run (N + 5)) .Mult (.ref (R.length + 1)) (.int 4) (R ++ [.lst [.str "fine", .str "fine", .str "fine", .str "fine"], .lst [.str "fine"]]) = .ok (.ref (R.length + 2)) (R ++ Z) := by
      have g : (R ++ [Cell.lst [.str "fine", .str "fine", .str "fine", .str "fine"], .lst [.str "fine"]])[R.length + 1]? = some (.lst [.str "fine"]) := get2 _ _ _ _
      unfold binD
      simp only [g]
      rw [if_pos ⟨trivial, by decide, by decide, by show 1 * 4 ≤ sizeLine; decide⟩]
      simp [newLst, Z, List.replicate]
    simp [newLst, List.append_assoc]
    exact q
  have c0 : (R ++ Z)[R.length]? = some (.lst [.str "fine", .str "fine", .str "fine", .str "fine"]) := get1 _ _ _
  have c2 : (R ++ Z)[R.length + 2]? = some (.lst [.str "fine", .str "fine", .str "fine", .str "fine"]) := by simp [Z]
  have hq := eq_strs4 (c := run (N + 5)) (by decide +kernel) c0 c2
  refine ⟨Z, ?_⟩
  unfold rf9
  rw [ap_sRet, ap_xBin, hA]
  simp only [Res.bind_ok, kB1_, hB, kB2_, hq]
  rfl
end
theorem x_number {b : Nat} {S : Store} (n f : Nat) (h2 : 2 ≤ f) (hf : f ≤ 105) (h : Pen (b + 15) S) (X : Store) : ∃ v S', run (n + 4) 10 [.ref 1, .int f] (S ++ X) = .ok (.int v) (S' ++ X) ∧ Nx S S' ∧ Pen b S' ∧ v.natAbs < 10 ^ f := by
  obtain ⟨v, s, e, nx, pn, h1⟩ := d_number n f h2 hf (h.ext X)
  obtain ⟨S', rfl, nx', pn'⟩ := nx.split h.long pn
  exact ⟨v, S', e, nx', pn', h1⟩
theorem d_refusals {b : Nat} {S : Store} (n d : Int) (F : Fr n d) (h : Pen (b + 100) S) : ∃ S', runG 13 24 [.ref 1, prD (n, d), rD ((n : Rat) / d)] S = .ok (.bl true) S' ∧ Nx S S' ∧ Pen b S' := by
  obtain ⟨z, t1, e1, m1, p1, hz⟩ := d_pick (b := b + 50) 10 ((h.mono (by omega)).ext [.lst [], .lst (odds S.length)]) (.ref (S.length + 1)) (odds S.length) (by unfold seqOf; simp) (by unfold odds; simp) (by unfold odds; simp) (by
    unfold odds
    intro y hy
    simp at hy
    rcases hy with rfl | rfl | rfl | rfl | rfl | rfl | rfl <;> simp)
  obtain ⟨S1, rfl, n1, p1'⟩ := m1.split (b := b + 50) h.long p1
  obtain ⟨k, S2, e2, n2, p2, _⟩ := x_number (b := b + 30) 8 40 (by decide) (by decide) (p1'.mono (by omega)) [.lst [], .lst (odds S.length)]
  obtain ⟨w, t3, e3, m3, p3, hw⟩ := d_pick (b := b) 10 ((p2.mono (b' := b + 1) (by omega)).ext ([.lst [], .lst (odds S.length)] ++ [.lst [.int 0, rD 0, rD 0]])) (.ref (S2 ++ [Cell.lst [], .lst (odds S.length)]).length) [.int 0, rD 0, rD 0] (by unfold seqOf; rw [← List.append_assoc]; simp) (by decide) (by decide) (by
    intro y hy
    simp at hy
    rcases hy with rfl | rfl <;> simp [noRef_rD])
  obtain ⟨S3, rfl, n3, p3'⟩ := m3.split (b := b) p2.long p3
  refine ⟨S3, ?_, (n1.trans n2).trans n3, p3'⟩
  rw [runG_24 12]
  refine fnG_of fun γ => ?_
  have hO := odd_is hz
  have hW : IsN w 0 := isN0 (by simp at hw; exact hw)
  have a3 := rf3_run (c := run 12) (st := S2 ++ [.lst [], .lst (odds S.length)]) (o1 := some (prD (n, d))) (o2 := some (rD ((n : Rat) / d))) (o3 := some z) (o4 := some (.int k)) (o5 := none) (o6 := none) (o7 := none) (o8 := none) (o9 := none) (s_mk1 10 0 _) (by
    have := s_mk 10 0 7 (S2 ++ [.lst [], .lst (odds S.length)]) (by decide) (by unfold Nb; decide)
    rwa [z_num] at this) (by rw [List.append_assoc]; exact e3)
  have hn : (S3 ++ ([Cell.lst [], .lst (odds S.length)] ++ [.lst [.int 0, rD 0, rD 0]]))[S.length]? = some (.lst []) := by
    rw [← n1.len, ← n2.len, ← n3.len]; simp
  generalize hX : ([Cell.lst [], .lst (odds S.length)] ++ [.lst [.int 0, rD 0, rD 0]]) = X at *
  generalize hR : S3 ++ X = R at *
  obtain ⟨o7, o8, a5⟩ := rf5_run (S := R) (γ := γ) (n := n) (d := d) (k := k) (p := (n : Rat) / d) (w := w) (o7 := none) (o8 := none) (o9 := none) 7 hO hn
  generalize hR2 : R ++ kA R.length γ = R2 at *
  obtain ⟨o8', o9', a7⟩ := rf7_run (S := R2) (γ := γ) (n := n) (d := d) (k := k) (p := (n : Rat) / d) (z := z) (o7 := o7) (o8 := o8) (o9 := none) 7 hW
  generalize hR3 : R2 ++ kB R2.length γ = R3 at *
  obtain ⟨e, a9⟩ := rf9_run (S := R3) (γ := γ) (n := n) (d := d) (k := k) (p := (n : Rat) / d) (z := z) (w := w) (o7 := o7) (o8 := o8') (o9 := o9') 7 (F.sz.mono (by decide)) F.ne (F.d.mono (by decide))
  have f4 := rf4_run (c := run 12) (γ := γ) (st := R) (o0 := some (.ref 1)) (o1 := some (prD (n, d))) (o2 := some (rD ((n : Rat) / d))) (o3 := some z) (o4 := some (.int k)) (o5 := some w) (o6 := none) (o7 := none) (o8 := none) (o9 := none)
  have f6 := rf6_run (c := run 12) (γ := γ) (st := R2) (o0 := some (.ref 1)) (o1 := some (prD (n, d))) (o2 := some (rD ((n : Rat) / d))) (o3 := some z) (o4 := some (.int k)) (o5 := some w) (o6 := some (.ref (R.length + 6))) (o7 := o7) (o8 := o8) (o9 := none)
  have f8 := rf8_run (c := run 12) (γ := γ) (st := R3) (o0 := some (.ref 1)) (o1 := some (prD (n, d))) (o2 := some (rD ((n : Rat) / d))) (o3 := some z) (o4 := some (.int k)) (o5 := some w) (o6 := some (.ref (R2.length + 5))) (o7 := o7) (o8 := o8') (o9 := o9')
  rw [hR2] at f4
  rw [hR3] at f6
  have fin := seq_step (rf1_run (c := run 12) (o1 := some (prD (n, d))) (o2 := some (rD ((n : Rat) / d))) (o3 := none) (o4 := none) (o5 := none) (o6 := none) (o7 := none) (o8 := none) (o9 := none) e1) (seq_step (rf2_run (o1 := some (prD (n, d))) (o2 := some (rD ((n : Rat) / d))) (o3 := some z) (o4 := none) (o5 := none) (o6 := none) (o7 := none) (o8 := none) (o9 := none) e2) (seq_step a3 (seq_step f4 (seq_step a5 (seq_step f6 (seq_step a7 (seq_step f8 a9)))))))
  rw [← hR3, ← hR2, ← hR, List.append_assoc, List.append_assoc, List.append_assoc, List.append_assoc] at fin
  exact fnD_pen (b := b) (Eq.trans (congrFun (congrFun (rf_eq (run 12) (runG 12) γ) (startE 10 [.ref 1, prD (n, d), rD ((n : Rat) / d)])) S) fin) ((n1.trans n2).trans n3) p3' (by simp)
end G08
namespace G08
open PySem PySem.Spec PyProof.Rows L2 Gm
theorem bin_li {T : Ls} {c : Fn} {st : Store} {m : Nat} {xs : List D} {z : Int} (h : st[m]? = some (.lst xs)) (hz : -(2 ^ 63) ≤ z ∧ z < 2 ^ 63 ∧ xs.length * z.toNat ≤ sizeLine) : binD T c .Mult (.ref m) (.int z) st = newLst (List.replicate z.toNat xs).flatten st := by
  unfold binD
  simp only [h]
  exact if_pos ⟨trivial, hz⟩
theorem tidy_dic0 {st st' : Store} {m : Nat} {kvs : List (Key × D)} (h : st'[m]? = some (.dic kvs)) (hn : noRef st.length (.ref m) = false) (hk : noRefs st.length (kvs.map (·.2)) = false) : tidy st (.ok (.ref m) st') = .ok (.ref m) st' := by
  unfold tidy
  simp only [h, hn, hk, Bool.false_eq_true, if_false]
  split <;> rfl
theorem fdiv_abs (X N : Int) (h : N ≠ 0) : (X.fdiv N).natAbs ≤ X.natAbs + 1 := by
  have key : ∀ (X N : Int), 0 < N → (X.fdiv N).natAbs ≤ X.natAbs + 1 := fun X N hN => by
    have e1 := Int.fmod_def X N
    have e2 := Int.fmod_nonneg_of_pos X hN
    have e3 := Int.fmod_lt_of_pos X hN
    have k1 : N * X.fdiv N ≤ X := by omega
    have k2 : X < N * (X.fdiv N + 1) := by rw [Int.mul_add]; omega
    generalize X.fdiv N = f at *
    rcases (show 0 ≤ f ∨ f < 0 by omega) with hf | hf
    · have := Int.mul_le_mul_of_nonneg_right (show 1 ≤ N by omega) hf
      omega
    · have := Int.mul_nonneg (show 0 ≤ N - 1 by omega) (show 0 ≤ -(f + 1) by omega)
      have e : (N - 1) * -(f + 1) = -(N * (f + 1)) + (f + 1) := by grind
      omega
  rcases Int.lt_or_gt_of_ne h with h | h
  · have := key (-X) (-N) (by omega)
    rw [Int.neg_fdiv_neg, Int.natAbs_neg] at this
    exact this
  · exact key X N h
def cellsOf (ns : List Int) : List Int := if ns = [] then [0] else ns
theorem cut63 (l : List D) (h : l.length ≤ 63) : Gm.cutD l none (some 63) = l := by
  unfold Gm.cutD
  rw [show HT.sIx l.length l.length (some 63) = min 63 l.length from HT.sIx_nat _ _ 63, HT.sIx_none, List.drop_zero]
  rw [List.take_of_length_le]
  omega
theorem fdiv_nb {X N : Int} {k : Nat} (hX : Nb k X) (h : N ≠ 0) : Nb (k + 1) (X.fdiv N) := by
  have := fdiv_abs X N h
  unfold Nb at hX ⊢
  rw [Nat.pow_succ]
  omega
theorem tidy_bl (st st' : Store) (b : Bool) : ∃ s, tidy st (.ok (.bl b) st') = .ok (.bl b) s := by
  unfold tidy
  simp only []
  split
  · exact ⟨_, if_pos (by simp)⟩
  · exact ⟨_, rfl⟩
def st0 (ns : List Int) : Store := [.rol (ns.map D.int), .dic (pc 0 0), .lst (ns.map D.int), .lst (ns.map D.int), .lst [.int 0], .lst (if ns = [] then [.int 0] else []), .lst ((cellsOf ns).map D.int)]
theorem s_begin (n : Nat) (ns : List Int) (h : ns.length ≤ 63) : run (n + 1) 4 [.ref 0] [.rol (ns.map D.int)] = .ok (.ref 1) (st0 ns) := by
  rw [run_4]
  generalize run n = c
  have hc := cut63 (ns.map D.int) (by rw [List.length_map]; exact h)
  have hs : ∀ ρ st, oSo (xK (.int 63)) ρ st = .ok (some 63) st := fun _ _ => rfl
  have hl : xBi bList (aCons (xSl (xVar 0) oNo (oSo (xK (.int 63)))) aNil) [some (.ref 0)] [.rol (ns.map D.int), .dic []] = .ok (.ref 3) [.rol (ns.map D.int), .dic [], .lst (ns.map D.int), .lst (ns.map D.int)] := by
    unfold xSl
    simp [oNo, hs, sliD, hc, newLst, bList, seqOf]
  have hln : ∀ e, bLen [.ref 0] (.rol (ns.map D.int) :: e) = .ok (.int ns.length) (.rol (ns.map D.int) :: e) := fun e => by
    unfold bLen seqOf
    simp
  have hR : xBin (binD T c .Mult) (xLst (aCons (xK (.int 0)) aNil)) (xBi bInt (aCons (xBin (eqB T c false) (xBi bLen (aCons (xVar 0) aNil)) (xK (.int 0))) aNil)) [some (.ref 0)] [.rol (ns.map D.int), .dic [], .lst (ns.map D.int), .lst (ns.map D.int)] = .ok (.ref 5) [.rol (ns.map D.int), .dic [], .lst (ns.map D.int), .lst (ns.map D.int), .lst [.int 0], .lst (if ns = [] then [.int 0] else [])] := by
    by_cases he : ns = []
    · subst he
      have hm := bin_li (T := T) (c := c) (st := [.rol [], .dic [], .lst [], .lst [], .lst [.int 0]]) (m := 4) (xs := [.int 0]) (z := 1) rfl ⟨by decide, by decide, by decide⟩
      have hln' := hln [.dic [], .lst [], .lst [], .lst [.int 0]]
      simp at hln'
      simp [newLst, hln', hm]
    · have hn : ((ns.length : Int) == 0) = false := by
        have : 0 < ns.length := List.length_pos_iff.mpr he
        simpa using he
      have hm := bin_li (T := T) (c := c) (st := [.rol (ns.map D.int), .dic [], .lst (ns.map D.int), .lst (ns.map D.int), .lst [.int 0]]) (m := 4) (xs := [.int 0]) (z := 0) rfl ⟨by decide, by decide, by decide⟩
      simp [newLst, hln, hn, hm, he]
  have hA : xBin (binD T c .Add) (xBi bList (aCons (xSl (xVar 0) oNo (oSo (xK (.int 63)))) aNil)) (xBin (binD T c .Mult) (xLst (aCons (xK (.int 0)) aNil)) (xBi bInt (aCons (xBin (eqB T c false) (xBi bLen (aCons (xVar 0) aNil)) (xK (.int 0))) aNil))) [some (.ref 0)] [.rol (ns.map D.int), .dic []] = .ok (.ref 6) [.rol (ns.map D.int), .dic [], .lst (ns.map D.int), .lst (ns.map D.int), .lst [.int 0], .lst (if ns = [] then [.int 0] else []), .lst ((cellsOf ns).map D.int)] := by
    rw [ap_xBin, hl, Res.bind_ok, kB1_, hR, Res.bind_ok, kB2_]
    have hz : (ns.map D.int).length + (if ns = [] then [D.int 0] else ([] : List D)).length < 100 := by
      rw [List.length_map]
      split <;> simp <;> omega
    have hb := bin_ll (c := c) (st := [.rol (ns.map D.int), .dic [], .lst (ns.map D.int), .lst (ns.map D.int), .lst [.int 0], .lst (if ns = [] then [.int 0] else [])]) (m := 3) (p := 5) (a := ns.map D.int) (b := if ns = [] then [.int 0] else []) rfl rfl hz
    rw [hb]
    by_cases he : ns = []
    · subst he
      rfl
    · simp [he, cellsOf]
  have hx : xDic ["cells", "at", "rest"] (aCons (xBin (binD T c .Add) (xBi bList (aCons (xSl (xVar 0) oNo (oSo (xK (.int 63)))) aNil)) (xBin (binD T c .Mult) (xLst (aCons (xK (.int 0)) aNil)) (xBi bInt (aCons (xBin (eqB T c false) (xBi bLen (aCons (xVar 0) aNil)) (xK (.int 0))) aNil)))) (aCons (xK (.int 0)) (aCons (xK (.int 0)) aNil))) [some (.ref 0)] [.rol (ns.map D.int)] = .ok (.ref 1) (st0 ns) := by
    unfold xDic
    simp only [List.cons_append, List.nil_append, ap_aCons, hA, Res.bind_ok, kC1_, ap_xK, kC2_, ap_aNil]
    rfl
  have e : B_4 c (startE 1 [.ref 0]) [.rol (ns.map D.int)] = .rt (.ref 1) (st0 ns) := by
    have : xDic ["cells", "at", "rest"] (aCons (xBin (binD T c .Add) (xBi bList (aCons (xSl (xVar 0) oNo (oSo (xK (.int 63)))) aNil)) (xBin (binD T c .Mult) (xLst (aCons (xK (.int 0)) aNil)) (xBi bInt (aCons (xBin (eqB T c false) (xBi bLen (aCons (xVar 0) aNil)) (xK (.int 0))) aNil)))) (aCons (xK (.int 0)) (aCons (xK (.int 0)) aNil))) (startE 1 [.ref 0]) [.rol (ns.map D.int)] = .ok (.ref 1) (st0 ns) := hx
    unfold B_4
    rw [ap_sRet, this]
    rfl
  rw [fnD_rt e]
  exact tidy_dic0 (kvs := pc 0 0) rfl (by simp) (by simp [pc])
theorem st0_pen (ns : List Int) (h : ns.length ≤ 63) : Pen 1000000 (st0 ns) := by
  refine ⟨cellsOf ns, 0, 0, ⟨rfl, rfl, by decide, ?_, ?_⟩, by decide⟩
  · unfold cellsOf
    split
    · decide
    · omega
  · unfold cellsOf
    split
    · decide
    · rename_i he
      exact List.length_pos_iff.mpr he
def st0L (ns : List Int) : Store := [.lst (ns.map D.int), .dic (pc 0 0), .lst (ns.map D.int), .lst (ns.map D.int), .lst [.int 0], .lst (if ns = [] then [.int 0] else []), .lst ((cellsOf ns).map D.int)]
theorem s_beginL (n : Nat) (ns : List Int) (h : ns.length ≤ 63) : run (n + 1) 4 [.ref 0] [.lst (ns.map D.int)] = .ok (.ref 1) (st0L ns) := by
  rw [run_4]
  generalize run n = c
  have hc := cut63 (ns.map D.int) (by rw [List.length_map]; exact h)
  have hs : ∀ ρ st, oSo (xK (.int 63)) ρ st = .ok (some 63) st := fun _ _ => rfl
  have hl : xBi bList (aCons (xSl (xVar 0) oNo (oSo (xK (.int 63)))) aNil) [some (.ref 0)] [.lst (ns.map D.int), .dic []] = .ok (.ref 3) [.lst (ns.map D.int), .dic [], .lst (ns.map D.int), .lst (ns.map D.int)] := by
    unfold xSl
    simp [oNo, hs, sliD, hc, newLst, bList, seqOf]
  have hln : ∀ e, bLen [.ref 0] (.lst (ns.map D.int) :: e) = .ok (.int ns.length) (.lst (ns.map D.int) :: e) := fun e => by
    unfold bLen seqOf
    simp
  have hR : xBin (binD T c .Mult) (xLst (aCons (xK (.int 0)) aNil)) (xBi bInt (aCons (xBin (eqB T c false) (xBi bLen (aCons (xVar 0) aNil)) (xK (.int 0))) aNil)) [some (.ref 0)] [.lst (ns.map D.int), .dic [], .lst (ns.map D.int), .lst (ns.map D.int)] = .ok (.ref 5) [.lst (ns.map D.int), .dic [], .lst (ns.map D.int), .lst (ns.map D.int), .lst [.int 0], .lst (if ns = [] then [.int 0] else [])] := by
    by_cases he : ns = []
    · subst he
      have hm := bin_li (T := T) (c := c) (st := [.lst [], .dic [], .lst [], .lst [], .lst [.int 0]]) (m := 4) (xs := [.int 0]) (z := 1) rfl ⟨by decide, by decide, by decide⟩
      have hln' := hln [.dic [], .lst [], .lst [], .lst [.int 0]]
      simp at hln'
      simp [newLst, hln', hm]
    · have hn : ((ns.length : Int) == 0) = false := by
        have : 0 < ns.length := List.length_pos_iff.mpr he
        simpa using he
      have hm := bin_li (T := T) (c := c) (st := [.lst (ns.map D.int), .dic [], .lst (ns.map D.int), .lst (ns.map D.int), .lst [.int 0]]) (m := 4) (xs := [.int 0]) (z := 0) rfl ⟨by decide, by decide, by decide⟩
      simp [newLst, hln, hn, hm, he]
  have hA : xBin (binD T c .Add) (xBi bList (aCons (xSl (xVar 0) oNo (oSo (xK (.int 63)))) aNil)) (xBin (binD T c .Mult) (xLst (aCons (xK (.int 0)) aNil)) (xBi bInt (aCons (xBin (eqB T c false) (xBi bLen (aCons (xVar 0) aNil)) (xK (.int 0))) aNil))) [some (.ref 0)] [.lst (ns.map D.int), .dic []] = .ok (.ref 6) [.lst (ns.map D.int), .dic [], .lst (ns.map D.int), .lst (ns.map D.int), .lst [.int 0], .lst (if ns = [] then [.int 0] else []), .lst ((cellsOf ns).map D.int)] := by
    rw [ap_xBin, hl, Res.bind_ok, kB1_, hR, Res.bind_ok, kB2_]
    have hz : (ns.map D.int).length + (if ns = [] then [D.int 0] else ([] : List D)).length < 100 := by
      rw [List.length_map]
      split <;> simp <;> omega
    have hb := bin_ll (c := c) (st := [.lst (ns.map D.int), .dic [], .lst (ns.map D.int), .lst (ns.map D.int), .lst [.int 0], .lst (if ns = [] then [.int 0] else [])]) (m := 3) (p := 5) (a := ns.map D.int) (b := if ns = [] then [.int 0] else []) rfl rfl hz
    rw [hb]
    by_cases he : ns = []
    · subst he
      rfl
    · simp [he, cellsOf]
  have hx : xDic ["cells", "at", "rest"] (aCons (xBin (binD T c .Add) (xBi bList (aCons (xSl (xVar 0) oNo (oSo (xK (.int 63)))) aNil)) (xBin (binD T c .Mult) (xLst (aCons (xK (.int 0)) aNil)) (xBi bInt (aCons (xBin (eqB T c false) (xBi bLen (aCons (xVar 0) aNil)) (xK (.int 0))) aNil)))) (aCons (xK (.int 0)) (aCons (xK (.int 0)) aNil))) [some (.ref 0)] [.lst (ns.map D.int)] = .ok (.ref 1) (st0L ns) := by
    unfold xDic
    simp only [List.cons_append, List.nil_append, ap_aCons, hA, Res.bind_ok, kC1_, ap_xK, kC2_, ap_aNil]
    rfl
  have e : B_4 c (startE 1 [.ref 0]) [.lst (ns.map D.int)] = .rt (.ref 1) (st0L ns) := by
    have : xDic ["cells", "at", "rest"] (aCons (xBin (binD T c .Add) (xBi bList (aCons (xSl (xVar 0) oNo (oSo (xK (.int 63)))) aNil)) (xBin (binD T c .Mult) (xLst (aCons (xK (.int 0)) aNil)) (xBi bInt (aCons (xBin (eqB T c false) (xBi bLen (aCons (xVar 0) aNil)) (xK (.int 0))) aNil)))) (aCons (xK (.int 0)) (aCons (xK (.int 0)) aNil))) (startE 1 [.ref 0]) [.lst (ns.map D.int)] = .ok (.ref 1) (st0L ns) := hx
    unfold B_4
    rw [ap_sRet, this]
    rfl
  rw [fnD_rt e]
  exact tidy_dic0 (kvs := pc 0 0) rfl (by simp) (by simp [pc])
theorem st0L_pen (ns : List Int) (h : ns.length ≤ 63) : Pen 1000000 (st0L ns) := by
  refine ⟨cellsOf ns, 0, 0, ⟨rfl, rfl, by decide, ?_, ?_⟩, by decide⟩
  · unfold cellsOf
    split
    · decide
    · omega
  · unfold cellsOf
    split
    · decide
    · rename_i he
      exact List.length_pos_iff.mpr he
end G08
namespace G08
open PySem PySem.Spec PyProof.Rows L2 Gm
noncomputable def lw1 (c : Fn) : Fs := (sAsg (xCall T c 4 (aCons (xVar 0) aNil)) (gNm 1))
noncomputable def lw2 (c : Fn) : Fs := (sPar 2 3 (aCons (xCall T c 16 (aCons (xVar 1) aNil)) (aCons (xCall T c 16 (aCons (xVar 1) aNil)) aNil)))
noncomputable def lw3 (c : Fn) : Fs := (sIf (tOf (truD T c) (xBin (eqB T c false) (xCall T c 5 (aCons (xVar 1) (aCons (xK (.int 4)) aNil))) (xK (.int 0)))) (sAsg (xTup (aCons (xBin (binD T c .Sub) (xBin (binD T c .Add) (xBin (binD T c .Mult) (xBin subD (xVar 2) (xK (.int 0))) (xK (.int 3))) (xCall T c 5 (aCons (xVar 1) (aCons (xK (.int 3)) aNil)))) (xK (.int 1))) (aCons (xBin (binD T c .Mult) (xBin subD (xVar 2) (xK (.int 1))) (xK (.int 3))) aNil))) (gNm 3)) sNx)
noncomputable def lw4 (c : Fn) : Fs := (sAsg (xCall T c 10 (aCons (xVar 1) (aCons (xK (.int 100)) aNil))) (gNm 4))
noncomputable def lw5 (c : Fn) : Fs := (sIf (tOf (truD T c) (xBin (eqB T c false) (xCall T c 5 (aCons (xVar 1) (aCons (xK (.int 3)) aNil))) (xK (.int 0)))) (sAsg (xBin (binD T c .Sub) (xBin (binD T c .Add) (xBin (binD T c .FloorDiv) (xBin subD (xVar 2) (xK (.int 0))) (xBin subD (xVar 2) (xK (.int 1)))) (xCall T c 5 (aCons (xVar 1) (aCons (xK (.int 3)) aNil)))) (xK (.int 1))) (gNm 4)) sNx)
noncomputable def lw6 (c : Fn) : Fs := (sAsg (xCall T c 6 (aCons (xVar 1) (aCons (xLst (aCons (xK (.int 1)) (aCons (xUn (negD T c) (xK (.int 1))) (aCons (xK (.int 6)) (aCons (xUn (negD T c) (xK (.int 35))) (aCons (xUn (negD T c) (xBin (binD T c .Pow) (xK (.int 10)) (xK (.int 19)))) aNil)))))) aNil))) (gNm 5))
noncomputable def lw7 (c : Fn) : Fs := (sPar 6 7 (aCons (xMk T c 0 (aCons (xBin (binD T c .Mult) (xBin subD (xVar 2) (xK (.int 0))) (xVar 5)) (aCons (xBin (binD T c .Mult) (xBin subD (xVar 2) (xK (.int 1))) (xVar 5)) aNil))) (aCons (xMk T c 0 (aCons (xUn (negD T c) (xBin subD (xVar 3) (xK (.int 0)))) (aCons (xUn (negD T c) (xBin subD (xVar 3) (xK (.int 1)))) aNil))) aNil)))
noncomputable def lw8 (c : Fn) : Fs := (sIf (tOr (tNot (tOf (truD T c) (xCall T c 15 (aCons (xVar 6) (aCons (xBin subD (xVar 2) (xK (.int 0))) (aCons (xBin subD (xVar 2) (xK (.int 1))) aNil)))))) (tOr (tNot (tOf (truD T c) (xCall T c 15 (aCons (xVar 7) (aCons (xBin subD (xVar 3) (xK (.int 0))) (aCons (xBin subD (xVar 3) (xK (.int 1))) aNil)))))) (tNot (tOf (truD T c) (xCall T c 15 (aCons (xMk T c 0 (aCons (xVar 4) aNil)) (aCons (xVar 4) (aCons (xK (.int 1)) aNil)))))))) (sRet (xK (.bl false))) sNx)
noncomputable def lw9 (c : Fn) : Fs := (sIf (tOr (tNot (tOf (truD T c) (xCall T c 18 (aCons (xVar 2) (aCons (xVar 3) (aCons (xVar 6) (aCons (xVar 7) aNil))))))) (tOr (tNot (tOf (truD T c) (xCall T c 19 (aCons (xVar 2) (aCons (xVar 4) (aCons (xVar 6) aNil)))))) (tNot (tOf (truD T c) (xCall T c 20 (aCons (xVar 2) (aCons (xVar 3) (aCons (xVar 6) (aCons (xVar 7) aNil))))))))) (sRet (xK (.bl false))) sNx)
noncomputable def lw10 (c : Fn) : Fs := (sIf (tOr (tNot (tOf (truD T c) (xCall T c 21 (aCons (xVar 2) (aCons (xVar 3) (aCons (xVar 4) (aCons (xVar 6) (aCons (xVar 7) aNil)))))))) (tNot (tOf (truD T c) (xCall T c 22 (aCons (xVar 2) (aCons (xVar 6) aNil)))))) (sRet (xK (.bl false))) sNx)
noncomputable def lw11 (c gc : Fn) : Fs := (sIf (tNot (tOf (truD T c) (xCallP (gc 24) (aCons (xVar 1) (aCons (xVar 2) (aCons (xVar 6) aNil)))))) (sRet (xK (.bl false))) sNx)
noncomputable def lw12 (c : Fn) : Fs := (sRet (xAnd (truD T c) (xCall T c 15 (aCons (xVar 6) (aCons (xBin subD (xVar 2) (xK (.int 0))) (aCons (xBin subD (xVar 2) (xK (.int 1))) aNil)))) (xCall T c 15 (aCons (xVar 7) (aCons (xBin subD (xVar 3) (xK (.int 0))) (aCons (xBin subD (xVar 3) (xK (.int 1))) aNil))))))
theorem lw_eq (c gc : Fn) : B_25 c gc = sSeq (lw1 c) (sSeq (lw2 c) (sSeq (lw3 c) (sSeq (lw4 c) (sSeq (lw5 c) (sSeq (lw6 c) (sSeq (lw7 c) (sSeq (lw8 c) (sSeq (lw9 c) (sSeq (lw10 c) (sSeq (lw11 c gc) (lw12 c))))))))))) := rfl
section
variable {c gc : Fn} {st s1 s2 : Store} {o0 o1 o2 o3 o4 o5 o6 o7 : Option D} {n d m e i g u f k : Int} {p q : Rat}
theorem lw1_run (h : c 4 [.ref 0] st = .ok (.ref 1) s1) : lw1 c (startE 8 [.ref 0]) st = .nx [some (.ref 0), some (.ref 1), none, none, none, none, none, none] s1 := by
  simp [lw1, startE, h]
theorem lw2_run (h1 : c 16 [.ref 1] st = .ok (prD (n, d)) s1) (h2 : c 16 [.ref 1] s1 = .ok (prD (m, e)) s2) : lw2 c [o0, some (.ref 1), o2, o3, o4, o5, o6, o7] st = .nx [o0, some (.ref 1), some (prD (n, d)), some (prD (m, e)), o4, o5, o6, o7] s2 := by
  simp [lw2, h1, h2]
theorem lw3_no (h : c 5 [.ref 1, .int 4] st = .ok (.int k) s1) (hk : (k == 0) = false) : lw3 c [o0, some (.ref 1), some (prD (n, d)), some (prD (m, e)), o4, o5, o6, o7] st = .nx [o0, some (.ref 1), some (prD (n, d)), some (prD (m, e)), o4, o5, o6, o7] s1 := by
  simp [lw3, h, hk]
theorem lw3_yes (h : c 5 [.ref 1, .int 4] st = .ok (.int 0) s1) (h2 : c 5 [.ref 1, .int 3] s1 = .ok (.int u) s2) (m1 : IntMulOk n 3) (m2 : IntMulOk d 3) : lw3 c [o0, some (.ref 1), some (prD (n, d)), some (prD (m, e)), o4, o5, o6, o7] st = .nx [o0, some (.ref 1), some (prD (n, d)), some (prD (n * 3 + u - 1, d * 3)), o4, o5, o6, o7] s2 := by
  simp [lw3, h, pr_0, pr_1, ib_mul _ m1, h2, ib_mul _ m2]
  rfl
theorem lw4_run (h : c 10 [.ref 1, .int 100] st = .ok (.int i) s1) : lw4 c [o0, some (.ref 1), some (prD (n, d)), some (prD (m, e)), o4, o5, o6, o7] st = .nx [o0, some (.ref 1), some (prD (n, d)), some (prD (m, e)), some (.int i), o5, o6, o7] s1 := by
  simp [lw4, h]
theorem lw5_no (h : c 5 [.ref 1, .int 3] st = .ok (.int k) s1) (hk : (k == 0) = false) : lw5 c [o0, some (.ref 1), some (prD (n, d)), some (prD (m, e)), some (.int i), o5, o6, o7] st = .nx [o0, some (.ref 1), some (prD (n, d)), some (prD (m, e)), some (.int i), o5, o6, o7] s1 := by
  simp [lw5, h, hk]
theorem lw5_yes (h : c 5 [.ref 1, .int 3] st = .ok (.int 0) s1) (hf : intBin .FloorDiv n d s1 = .ok (.int f) s1) (h2 : c 5 [.ref 1, .int 3] s1 = .ok (.int u) s2) : lw5 c [o0, some (.ref 1), some (prD (n, d)), some (prD (m, e)), some (.int i), o5, o6, o7] st = .nx [o0, some (.ref 1), some (prD (n, d)), some (prD (m, e)), some (.int (f + u - 1)), o5, o6, o7] s2 := by
  simp [lw5, h, pr_0, pr_1, hf, h2]
theorem lw6_run (h : c 6 [.ref 1, .ref st.length] (st ++ [.lst [.int 1, .int (-1), .int 6, .int (-35), .int (-10000000000000000000)]]) = .ok (.int g) s1) : lw6 c [o0, some (.ref 1), some (prD (n, d)), some (prD (m, e)), some (.int i), o5, o6, o7] st = .nx [o0, some (.ref 1), some (prD (n, d)), some (prD (m, e)), some (.int i), some (.int g), o6, o7] s1 := by
  have hp : intBin .Pow 10 19 st = .ok (.int 10000000000000000000) st := rfl
  simp [lw6, newLst, hp, h]
theorem lw7_run (m1 : IntMulOk n g) (m2 : IntMulOk d g) (h1 : mkD T c 0 [.int (n * g), .int (d * g)] st = .ok (rD p) st) (h2 : mkD T c 0 [.int (-m), .int (-e)] st = .ok (rD q) st) : lw7 c [o0, some (.ref 1), some (prD (n, d)), some (prD (m, e)), some (.int i), some (.int g), o6, o7] st = .nx [o0, some (.ref 1), some (prD (n, d)), some (prD (m, e)), some (.int i), some (.int g), some (rD p), some (rD q)] st := by
  simp [lw7, pr_0, pr_1, ib_mul _ m1, ib_mul _ m2, h1, h2]
theorem lw8_run (h1 : c 15 [rD p, .int n, .int d] st = .ok (.bl true) st) (h2 : c 15 [rD q, .int m, .int e] st = .ok (.bl true) st) (h3 : mkD T c 0 [.int i] st = .ok (rD (i : Rat)) st) (h4 : c 15 [rD (i : Rat), .int i, .int 1] st = .ok (.bl true) st) : lw8 c [o0, some (.ref 1), some (prD (n, d)), some (prD (m, e)), some (.int i), some (.int g), some (rD p), some (rD q)] st = .nx [o0, some (.ref 1), some (prD (n, d)), some (prD (m, e)), some (.int i), some (.int g), some (rD p), some (rD q)] st := by
  generalize (i : Rat) = x at *
  simp [lw8, pr_0, pr_1, h1, h2, h3, h4]
theorem lw9_run (h1 : c 18 [prD (n, d), prD (m, e), rD p, rD q] st = .ok (.bl true) st) (h2 : c 19 [prD (n, d), .int i, rD p] st = .ok (.bl true) st) (h3 : c 20 [prD (n, d), prD (m, e), rD p, rD q] st = .ok (.bl true) st) : lw9 c [o0, some (.ref 1), some (prD (n, d)), some (prD (m, e)), some (.int i), some (.int g), some (rD p), some (rD q)] st = .nx [o0, some (.ref 1), some (prD (n, d)), some (prD (m, e)), some (.int i), some (.int g), some (rD p), some (rD q)] st := by
  simp [lw9, h1, h2, h3]
theorem lw10_run (h1 : c 21 [prD (n, d), prD (m, e), .int i, rD p, rD q] st = .ok (.bl true) st) (h2 : c 22 [prD (n, d), rD p] st = .ok (.bl true) st) : lw10 c [o0, some (.ref 1), some (prD (n, d)), some (prD (m, e)), some (.int i), some (.int g), some (rD p), some (rD q)] st = .nx [o0, some (.ref 1), some (prD (n, d)), some (prD (m, e)), some (.int i), some (.int g), some (rD p), some (rD q)] st := by
  simp [lw10, h1, h2]
theorem lw11_run (h : gc 24 [.ref 1, prD (n, d), rD p] st = .ok (.bl true) s1) : lw11 c gc [o0, some (.ref 1), some (prD (n, d)), some (prD (m, e)), some (.int i), some (.int g), some (rD p), some (rD q)] st = .nx [o0, some (.ref 1), some (prD (n, d)), some (prD (m, e)), some (.int i), some (.int g), some (rD p), some (rD q)] s1 := by
  have hx : xCallP (gc 24) (aCons (xVar 1) (aCons (xVar 2) (aCons (xVar 6) aNil))) [o0, some (.ref 1), some (prD (n, d)), some (prD (m, e)), some (.int i), some (.int g), some (rD p), some (rD q)] st = .ok (.bl true) s1 := by
    unfold xCallP
    simp [h]
  simp [lw11, hx]
theorem lw12_run (h1 : c 15 [rD p, .int n, .int d] st = .ok (.bl true) st) (h2 : c 15 [rD q, .int m, .int e] st = .ok (.bl true) st) : lw12 c [o0, some (.ref 1), some (prD (n, d)), some (prD (m, e)), some (.int i), some (.int g), some (rD p), some (rD q)] st = .rt (.bl true) st := by
  simp [lw12, pr_0, pr_1, h1, h2]
end
theorem d_fraction {b : Nat} {S : Store} (n : Nat) (h : Pen (b + 30) S) : ∃ (x d : Int) (S' : Store), run (n + 5) 16 [.ref 1] S = .ok (prD (x, d)) S' ∧ Nx S S' ∧ Pen b S' ∧ x.natAbs < 10 ^ 80 ∧ 0 < d ∧ d < 1 + ((10 ^ 79 : Nat) : Int) := by
  obtain ⟨x, s1, e1, n1, p1, h1⟩ := d_number (b := b + 15) n 80 (by decide) (by decide) (h.mono (by omega))
  obtain ⟨y, s2, e2, n2, p2, y0, y1⟩ := d_size (b := b) (n + 1) 79 (by decide) (by decide) (p1.mono (by omega))
  refine ⟨x, 1 + y, s2, ?_, n1.trans n2, p2, h1, by omega, by omega⟩
  rw [run_16]
  have q : ∀ c : Fn, c 10 [.ref 1, .int 80] S = .ok (.int x) s1 → c 9 [.ref 1, .int 79] s1 = .ok (.int y) s2 → B_16 c (startE 1 [.ref 1]) S = .rt (prD (x, 1 + y)) s2 := fun c e1 e2 => by
    simp [B_16, startE, e1, e2]
    rfl
  exact fnD_pen0 (q _ e1 e2) (n1.trans n2) p2 (noRef_prD _ _)
theorem fr_of {n d : Int} (h1 : n.natAbs < 10 ^ 80 * 4) (h2 : 0 < d) (h3 : d.natAbs ≤ (1 + 10 ^ 79) * 3) : Fr n d := by
  have k1 : (10 : Nat) ^ 80 * 4 < 2 ^ 300 := by decide
  have k2 : (1 + (10 : Nat) ^ 79) * 3 < 2 ^ 300 := by decide
  exact ⟨h2, Nat.lt_trans h1 k1, Nat.lt_of_le_of_lt h3 k2⟩
theorem law_from (s0 : Store) (h : Pen 1000000 s0) : ∃ s', (sSeq (lw2 (run 13)) (sSeq (lw3 (run 13)) (sSeq (lw4 (run 13)) (sSeq (lw5 (run 13)) (sSeq (lw6 (run 13)) (sSeq (lw7 (run 13)) (sSeq (lw8 (run 13)) (sSeq (lw9 (run 13)) (sSeq (lw10 (run 13)) (sSeq (lw11 (run 13) (runG 13)) (lw12 (run 13))))))))))))
    [some (.ref 0), some (.ref 1), none, none, none, none, none, none] s0 = .rt (.bl true) s' := by
  obtain ⟨n, d, s1, e1, n1, p1, a1, a2, a3⟩ := d_fraction (b := 900000) 8 (h.mono (by decide))
  obtain ⟨m', e', s2, e2, n2, p2, b1, b2, b3⟩ := d_fraction (b := 800000) 8 (p1.mono (by decide))
  have F1 : Fr n d := fr_of (by generalize (10 : Nat) ^ 80 = W at *; omega) a2 (by generalize (10 : Nat) ^ 79 = W at *; omega)
  have n3 : Nb 300 (3 : Int) := (show Nb 2 (3 : Int) by unfold Nb; decide).mono (by decide)
  obtain ⟨m, e, s3, F2, p3, g3⟩ : ∃ m e s3, Fr m e ∧ Pen 700000 s3 ∧ lw3 (run 13) [some (.ref 0), some (.ref 1), some (prD (n, d)), some (prD (m', e')), none, none, none, none] s2 = .nx [some (.ref 0), some (.ref 1), some (prD (n, d)), some (prD (m, e)), none, none, none, none] s3 := by
    obtain ⟨k, t1, f1, _, q1, _, _⟩ := d_draw (b := 750000) 12 (p2.mono (by decide)) 4 (by decide) (by unfold Nb; decide)
    cases hk : (k == 0) with
    | false => exact ⟨m', e', t1, fr_of (by generalize (10 : Nat) ^ 80 = W at *; omega) b2 (by generalize (10 : Nat) ^ 79 = W at *; omega), q1.mono (by decide), lw3_no f1 hk⟩
    | true =>
      obtain rfl : k = 0 := by simpa using hk
      obtain ⟨u, t2, f2, _, q2, u0, u1⟩ := d_draw (b := 740000) 12 (q1.mono (by decide)) 3 (by decide) (by unfold Nb; decide)
      have hw : 4 ≤ (10 : Nat) ^ 80 := by decide
      exact ⟨_, _, t2, fr_of (by generalize (10 : Nat) ^ 80 = W at *; omega) (by omega) (by generalize (10 : Nat) ^ 79 = W at *; omega), q2.mono (by decide), lw3_yes f1 f2 (F1.n.ok n3 (by decide)) (F1.d.ok n3 (by decide))⟩
  obtain ⟨i0, s4, e4, n4, p4, i1⟩ := d_number (b := 600000) 9 100 (by decide) (by decide) (p3.mono (by decide))
  have k100 : (10 : Nat) ^ 100 < 2 ^ 400 := by decide
  obtain ⟨i, s5, ni, p5, g5⟩ : ∃ i s5, Nb 400 i ∧ Pen 500000 s5 ∧ lw5 (run 13) [some (.ref 0), some (.ref 1), some (prD (n, d)), some (prD (m, e)), some (.int i0), none, none, none] s4 = .nx [some (.ref 0), some (.ref 1), some (prD (n, d)), some (prD (m, e)), some (.int i), none, none, none] s5 := by
    obtain ⟨k, t1, f1, _, q1, _, _⟩ := d_draw (b := 550000) 12 (p4.mono (by decide)) 3 (by decide) (by unfold Nb; decide)
    cases hk : (k == 0) with
    | false => exact ⟨i0, t1, Nat.lt_trans i1 k100, q1.mono (by decide), lw5_no f1 hk⟩
    | true =>
      obtain rfl : k = 0 := by simpa using hk
      obtain ⟨u, t2, f2, _, q2, u0, u1⟩ := d_draw (b := 540000) 12 (q1.mono (by decide)) 3 (by decide) (by unfold Nb; decide)
      have hf := ib_fdiv (st := t1) (i := n) (j := d) ⟨F1.ne, lg9 F1.d (by decide) (by decide)⟩
      have hb := fdiv_nb F1.n F1.ne
      have hu : Nb 300 (u - 1) := Nat.lt_of_le_of_lt (show (u - 1).natAbs ≤ 2 by omega) (by decide)
      refine ⟨_, t2, ?_, q2.mono (by decide), lw5_yes f1 hf f2⟩
      rw [show n.fdiv d + u - 1 = n.fdiv d + (u - 1) by omega]
      exact (hb.add hu).mono (by decide)
  obtain ⟨z, s6, e6, n6, p6, hz⟩ := d_pick (b := 400000) 11 ((p5.mono (by decide)).ext [.lst [.int 1, .int (-1), .int 6, .int (-35), .int (-10000000000000000000)]]) (.ref s5.length) [.int 1, .int (-1), .int 6, .int (-35), .int (-10000000000000000000)] (by unfold seqOf; simp) (by decide) (by decide) (by simp)
  obtain ⟨g, rfl, g0, ng⟩ : ∃ g, z = .int g ∧ g ≠ 0 ∧ Nb 100 g := by
    simp only [List.mem_cons, List.not_mem_nil, or_false] at hz
    rcases hz with rfl | rfl | rfl | rfl | rfl
    · exact ⟨_, rfl, by decide, by unfold Nb; decide⟩
    · exact ⟨_, rfl, by decide, by unfold Nb; decide⟩
    · exact ⟨_, rfl, by decide, by unfold Nb; decide⟩
    · exact ⟨_, rfl, by decide, by unfold Nb; decide⟩
    · exact ⟨_, rfl, by decide, by unfold Nb; decide⟩
  have m1 := s_mk 11 (n * g) (d * g) s6 (Int.mul_ne_zero F1.ne g0) ((F1.d.mul ng).mono (by decide))
  rw [Rat.divInt_eq_div, ← f_scale n d g g0 F1.ne] at m1
  have m2 := s_mk 11 (-m) (-e) s6 (by have := F2.pos; omega) (F2.d.neg.mono (by decide))
  rw [Rat.divInt_eq_div, show -m = m * (-1) by omega, show -e = e * (-1) by omega, ← f_scale m e (-1) (by decide) F2.ne, show m * (-1) = -m by omega, show e * (-1) = -e by omega] at m2
  have r1 := fun st => s_ratio_is 11 ((n : Rat) / d) n d st F1.ne (F1.sz.mono (by decide)) (F1.n.mono (by decide)) (F1.d.mono (by decide)) rfl
  have r2 := fun st => s_ratio_is 11 ((m : Rat) / e) m e st F2.ne (F2.sz.mono (by decide)) (F2.n.mono (by decide)) (F2.d.mono (by decide)) rfl
  have r3 := s_ratio_is 11 (i : Rat) i 1 s6 (by decide) ((Sz.int ni (by decide)).mono (by decide)) (ni.mono (by decide)) ((show Nb 1 (1 : Int) by unfold Nb; decide).mono (by decide)) (f_one i)
  obtain ⟨s7, e7, n7, p7⟩ := d_refusals (b := 300000) n d F1 (p6.mono (by decide))
  refine ⟨s7, seq_step (lw2_run e1 e2) (seq_step g3 (seq_step (lw4_run e4) (seq_step g5 (seq_step (lw6_run e6) (seq_step (lw7_run (F1.n.ok ng (by decide)) (F1.d.ok ng (by decide)) m1 m2) (seq_step (lw8_run (r1 _) (r2 _) (s_mk1 11 i s6) r3) (seq_step (lw9_run (s_sums 8 n d m e F1 F2 s6) (s_mixed 7 n d i F1 ni s6) (s_order 8 n d m e F1 F2 s6)) (seq_step (lw10_run (s_floors 6 n d m e i F1 F2 ni s6) (s_shown 7 n d F1 s6)) (seq_step (lw11_run e7) (lw12_run (r1 _) (r2 _)))))))))))⟩
theorem law_ok' : ∀ ns : List Int, ns.length ≤ 63 → ∀ ce : Cell, Ce ns ce → ∃ st, runG 14 25 [.ref 0] [ce] = .ok (.bl true) st := by
  intro ns hl ce hce
  have fin : ∀ s0 : Store, run 13 4 [.ref 0] [ce] = .ok (.ref 1) s0 → Pen 1000000 s0 → ∃ st, runG 14 25 [.ref 0] [ce] = .ok (.bl true) st := fun s0 hb hp => by
    obtain ⟨S, e⟩ := law_from s0 hp
    have a1 := lw1_run (c := run 13) (st := [ce]) hb
    rw [runG_25 13, fnD_rt (d := .bl true) (st' := S)]
    · exact tidy_bl _ _ _
    · rw [lw_eq]
      exact seq_step a1 e
  rcases hce with rfl | rfl
  · exact fin (st0 ns) (s_begin 12 ns hl) (st0_pen ns hl)
  · exact fin (st0L ns) (s_beginL 12 ns hl) (st0L_pen ns hl)
end G08
namespace G08
open PySem PySem.Spec PyProof.Rows L2 Gm
section
variable {P : Program} {w : World} {K : PySem.W.Frag} {mg : Str → Option Value} {base h : Heap}
theorem nam_of (X : K.In h) (G : h.Ns mainGlobals mg) (c : Says fa fn ex K) (hex : ex K = true) : Nam K mg where
  g_Ratio := He.glo_ok X G (c.fact 0 (f := .glo "Ratio") rfl)
  g_is_number := He.glo_ok X G (c.fact 1 (f := .glo "is_number") rfl)
  g__law_draw := He.glo_ok X G (c.fact 2 (f := .glo "_law_draw") rfl)
  g__law_ten := He.glo_ok X G (c.fact 3 (f := .glo "_law_ten") rfl)
  g__law_long := He.glo_ok X G (c.fact 4 (f := .glo "_law_long") rfl)
  g__law_size := He.glo_ok X G (c.fact 5 (f := .glo "_law_size") rfl)
  g__law_whole_is := He.glo_ok X G (c.fact 6 (f := .glo "_law_whole_is") rfl)
  g__law_gcd := He.glo_ok X G (c.fact 7 (f := .glo "_law_gcd") rfl)
  g__law_number := He.glo_ok X G (c.fact 8 (f := .glo "_law_number") rfl)
  g__law_ratio_is := He.glo_ok X G (c.fact 9 (f := .glo "_law_ratio_is") rfl)
  g__law_truth := He.glo_ok X G (c.fact 10 (f := .glo "_law_truth") rfl)
  g__law_few := He.glo_ok X G (c.fact 11 (f := .glo "_law_few") rfl)
  g__law_power := He.glo_ok X G (c.fact 12 (f := .glo "_law_power") rfl)
  g_ratio_of := He.glo_ok X G (c.fact 13 (f := .glo "ratio_of") rfl)
  g__law_pick := He.glo_ok X G (c.fact 14 (f := .glo "_law_pick") rfl)
  g__law_refused := He.glo_ok X G (c.fact 15 (f := .glo "_law_refused") rfl)
  g__law_begin := He.glo_ok X G (c.fact 16 (f := .glo "_law_begin") rfl)
  g__law_fraction := He.glo_ok X G (c.fact 17 (f := .glo "_law_fraction") rfl)
  g__law_sums_right := He.glo_ok X G (c.fact 18 (f := .glo "_law_sums_right") rfl)
  g__law_mixed_right := He.glo_ok X G (c.fact 19 (f := .glo "_law_mixed_right") rfl)
  g__law_order_right := He.glo_ok X G (c.fact 20 (f := .glo "_law_order_right") rfl)
  g__law_floors_right := He.glo_ok X G (c.fact 21 (f := .glo "_law_floors_right") rfl)
  g__law_shown_right := He.glo_ok X G (c.fact 22 (f := .glo "_law_shown_right") rfl)
  g__law_refusals_right := He.glo_ok X G (c.fact 23 (f := .glo "_law_refusals_right") rfl)
  g_gcd_of := He.glo_ok X G (c.fact 24 (f := .glo "gcd_of") rfl)
  g_raised := He.glo_ok X G (c.fact 25 (f := .glo "raised") rfl)
  b_isinstance := He.free_ok X G (c.fact 26 (f := .free "isinstance") rfl)
  b_int := He.free_ok X G (c.fact 27 (f := .free "int") rfl)
  b_bool := He.free_ok X G (c.fact 28 (f := .free "bool") rfl)
  b_abs := He.free_ok X G (c.fact 29 (f := .free "abs") rfl)
  b_list := He.free_ok X G (c.fact 30 (f := .free "list") rfl)
  b_len := He.free_ok X G (c.fact 31 (f := .free "len") rfl)
  b_range := He.free_ok X G (c.fact 32 (f := .free "range") rfl)
  b_max := He.free_ok X G (c.fact 33 (f := .free "max") rfl)
  b_str := He.free_ok X G (c.fact 34 (f := .free "str") rfl)
  b_repr := He.free_ok X G (c.fact 35 (f := .free "repr") rfl)
  b_ValueError := He.free_ok X G (c.fact 36 (f := .free "ValueError") rfl)
theorem binds_of (c : Says fa fn ex K) : AllN (BindOk tb K) 0 52 :=
  ⟨(c.def_ 0 (d := d_0) rfl).elim fun fd F => bind0 (f := 0) rfl F rfl rfl fun _ _ _ _ _ _ us hl => (match us, hl with | [_], _ => rfl),
  ⟨(c.def_ 1 (d := d_1) rfl).elim fun fd F => bind0 (f := 1) rfl F rfl rfl fun _ _ _ _ _ _ us hl => (match us, hl with | [_, _], _ => rfl),
  ⟨(c.def_ 2 (d := d_2) rfl).elim fun fd F => bind0 (f := 2) rfl F rfl rfl fun _ _ _ _ _ _ us hl => (match us, hl with | [_, _], _ => rfl),
  ⟨(c.def_ 3 (d := d_3) rfl).elim fun fd F => bind0 (f := 3) rfl F rfl rfl fun _ _ _ _ _ _ us hl => (match us, hl with | [_], _ => rfl),
  ⟨(c.def_ 4 (d := d_4) rfl).elim fun fd F => bind0 (f := 4) rfl F rfl rfl fun _ _ _ _ _ _ us hl => (match us, hl with | [_], _ => rfl),
  ⟨(c.def_ 5 (d := d_5) rfl).elim fun fd F => bind0 (f := 5) rfl F rfl rfl fun _ _ _ _ _ _ us hl => (match us, hl with | [_, _], _ => rfl),
  ⟨(c.def_ 6 (d := d_6) rfl).elim fun fd F => bind0 (f := 6) rfl F rfl rfl fun _ _ _ _ _ _ us hl => (match us, hl with | [_, _], _ => rfl),
  ⟨(c.def_ 7 (d := d_7) rfl).elim fun fd F => bind0 (f := 7) rfl F rfl rfl fun _ _ _ _ _ _ us hl => (match us, hl with | [_], _ => rfl),
  ⟨(c.def_ 8 (d := d_8) rfl).elim fun fd F => bind0 (f := 8) rfl F rfl rfl fun _ _ _ _ _ _ us hl => (match us, hl with | [_, _], _ => rfl),
  ⟨(c.def_ 9 (d := d_9) rfl).elim fun fd F => bind0 (f := 9) rfl F rfl rfl fun _ _ _ _ _ _ us hl => (match us, hl with | [_, _], _ => rfl),
  ⟨(c.def_ 10 (d := d_10) rfl).elim fun fd F => bind0 (f := 10) rfl F rfl rfl fun _ _ _ _ _ _ us hl => (match us, hl with | [_, _], _ => rfl),
  ⟨(c.def_ 11 (d := d_11) rfl).elim fun fd F => bind0 (f := 11) rfl F rfl rfl fun _ _ _ _ _ _ us hl => (match us, hl with | [_, _], _ => rfl),
  ⟨(c.def_ 12 (d := d_12) rfl).elim fun fd F => bind0 (f := 12) rfl F rfl rfl fun _ _ _ _ _ _ us hl => (match us, hl with | [_, _], _ => rfl),
  ⟨(c.def_ 13 (d := d_13) rfl).elim fun fd F => bind0 (f := 13) rfl F rfl rfl fun _ _ _ _ _ _ us hl => (match us, hl with | [_, _], _ => rfl),
  ⟨(c.def_ 14 (d := d_14) rfl).elim fun fd F => bind0 (f := 14) rfl F rfl rfl fun _ _ _ _ _ _ us hl => (match us, hl with | [_, _], _ => rfl),
  ⟨(c.def_ 15 (d := d_15) rfl).elim fun fd F => bind0 (f := 15) rfl F rfl rfl fun _ _ _ _ _ _ us hl => (match us, hl with | [_, _, _], _ => rfl),
  ⟨(c.def_ 16 (d := d_16) rfl).elim fun fd F => bind0 (f := 16) rfl F rfl rfl fun _ _ _ _ _ _ us hl => (match us, hl with | [_], _ => rfl),
  ⟨(c.def_ 17 (d := d_17) rfl).elim fun fd F => bind0 (f := 17) rfl F rfl rfl fun _ _ _ _ _ _ us hl => (match us, hl with | [_], _ => rfl),
  ⟨(c.def_ 18 (d := d_18) rfl).elim fun fd F => bind0 (f := 18) rfl F rfl rfl fun _ _ _ _ _ _ us hl => (match us, hl with | [_, _, _, _], _ => rfl),
  ⟨(c.def_ 19 (d := d_19) rfl).elim fun fd F => bind0 (f := 19) rfl F rfl rfl fun _ _ _ _ _ _ us hl => (match us, hl with | [_, _, _], _ => rfl),
  ⟨(c.def_ 20 (d := d_20) rfl).elim fun fd F => bind0 (f := 20) rfl F rfl rfl fun _ _ _ _ _ _ us hl => (match us, hl with | [_, _, _, _], _ => rfl),
  ⟨(c.def_ 21 (d := d_21) rfl).elim fun fd F => bind0 (f := 21) rfl F rfl rfl fun _ _ _ _ _ _ us hl => (match us, hl with | [_, _, _, _, _], _ => rfl),
  ⟨(c.def_ 22 (d := d_22) rfl).elim fun fd F => bind0 (f := 22) rfl F rfl rfl fun _ _ _ _ _ _ us hl => (match us, hl with | [_, _], _ => rfl),
  ⟨(c.def_ 23 (d := d_23) rfl).elim fun fd F => bind0 (f := 23) rfl F rfl rfl fun _ _ _ _ _ _ us hl => (match us, hl with | [_], _ => rfl),
  ⟨(c.def_ 24 (d := d_24) rfl).elim fun fd F => bind0 (f := 24) rfl F rfl rfl fun _ _ _ _ _ _ us hl => (match us, hl with | [_, _, _], _ => rfl),
  ⟨(c.def_ 25 (d := d_25) rfl).elim fun fd F => bind0 (f := 25) rfl F rfl rfl fun _ _ _ _ _ _ us hl => (match us, hl with | [_], _ => rfl),
  ⟨(c.def_ 26 (d := d_26) rfl).elim fun fd F => bindJ (f := 26) rfl F (by decide) (by decide) (by decide) fun j hj => match j, hj with | 0, _ => fun _ _ _ _ _ _ _ us its l1 l2 => (match us, its, l1, l2 with | [_, _], [_], _, _ => ⟨_, rfl, rfl⟩) | 1, _ => fun _ _ _ _ _ _ _ us its l1 l2 => (match us, its, l1, l2 with | [_, _, _], [_], _, _ => (by first | exact .inl rfl | exact .inr ⟨_, rfl, rfl⟩)),
  ⟨(c.def_ 27 (d := d_27) rfl).elim fun fd F => bind0 (f := 27) rfl F rfl rfl fun _ _ _ _ _ _ us hl => (match us, hl with | [_, _], _ => rfl),
  ⟨(c.def_ 28 (d := d_28) rfl).elim fun fd F => bind0 (f := 28) rfl F rfl rfl fun _ _ _ _ _ _ us hl => (match us, hl with | [_, _], _ => rfl),
  ⟨(c.def_ 29 (d := d_29) rfl).elim fun fd F => bind0 (f := 29) rfl F rfl rfl fun _ _ _ _ _ _ us hl => (match us, hl with | [_, _], _ => rfl),
  ⟨(c.def_ 30 (d := d_30) rfl).elim fun fd F => bind0 (f := 30) rfl F rfl rfl fun _ _ _ _ _ _ us hl => (match us, hl with | [_, _], _ => rfl),
  ⟨(c.def_ 31 (d := d_31) rfl).elim fun fd F => bind0 (f := 31) rfl F rfl rfl fun _ _ _ _ _ _ us hl => (match us, hl with | [_, _], _ => rfl),
  ⟨(c.def_ 32 (d := d_32) rfl).elim fun fd F => bind0 (f := 32) rfl F rfl rfl fun _ _ _ _ _ _ us hl => (match us, hl with | [_, _], _ => rfl),
  ⟨(c.def_ 33 (d := d_33) rfl).elim fun fd F => bind0 (f := 33) rfl F rfl rfl fun _ _ _ _ _ _ us hl => (match us, hl with | [_, _], _ => rfl),
  ⟨(c.def_ 34 (d := d_34) rfl).elim fun fd F => bind0 (f := 34) rfl F rfl rfl fun _ _ _ _ _ _ us hl => (match us, hl with | [_, _], _ => rfl),
  ⟨(c.def_ 35 (d := d_35) rfl).elim fun fd F => bind0 (f := 35) rfl F rfl rfl fun _ _ _ _ _ _ us hl => (match us, hl with | [_, _], _ => rfl),
  ⟨(c.def_ 36 (d := d_36) rfl).elim fun fd F => bind0 (f := 36) rfl F rfl rfl fun _ _ _ _ _ _ us hl => (match us, hl with | [_, _], _ => rfl),
  ⟨(c.def_ 37 (d := d_37) rfl).elim fun fd F => bind0 (f := 37) rfl F rfl rfl fun _ _ _ _ _ _ us hl => (match us, hl with | [_, _], _ => rfl),
  ⟨(c.def_ 38 (d := d_38) rfl).elim fun fd F => bind0 (f := 38) rfl F rfl rfl fun _ _ _ _ _ _ us hl => (match us, hl with | [_, _], _ => rfl),
  ⟨(c.def_ 39 (d := d_39) rfl).elim fun fd F => bind0 (f := 39) rfl F rfl rfl fun _ _ _ _ _ _ us hl => (match us, hl with | [_, _], _ => rfl),
  ⟨(c.def_ 40 (d := d_40) rfl).elim fun fd F => bind0 (f := 40) rfl F rfl rfl fun _ _ _ _ _ _ us hl => (match us, hl with | [_, _], _ => rfl),
  ⟨(c.def_ 41 (d := d_41) rfl).elim fun fd F => bind0 (f := 41) rfl F rfl rfl fun _ _ _ _ _ _ us hl => (match us, hl with | [_, _], _ => rfl),
  ⟨(c.def_ 42 (d := d_42) rfl).elim fun fd F => bind0 (f := 42) rfl F rfl rfl fun _ _ _ _ _ _ us hl => (match us, hl with | [_, _], _ => rfl),
  ⟨(c.def_ 43 (d := d_43) rfl).elim fun fd F => bind0 (f := 43) rfl F rfl rfl fun _ _ _ _ _ _ us hl => (match us, hl with | [_], _ => rfl),
  ⟨(c.def_ 44 (d := d_44) rfl).elim fun fd F => bind0 (f := 44) rfl F rfl rfl fun _ _ _ _ _ _ us hl => (match us, hl with | [_], _ => rfl),
  ⟨(c.def_ 45 (d := d_45) rfl).elim fun fd F => bind0 (f := 45) rfl F rfl rfl fun _ _ _ _ _ _ us hl => (match us, hl with | [_], _ => rfl),
  ⟨(c.def_ 46 (d := d_46) rfl).elim fun fd F => bind0 (f := 46) rfl F rfl rfl fun _ _ _ _ _ _ us hl => (match us, hl with | [_], _ => rfl),
  ⟨(c.def_ 47 (d := d_47) rfl).elim fun fd F => bind0 (f := 47) rfl F rfl rfl fun _ _ _ _ _ _ us hl => (match us, hl with | [_, _], _ => rfl),
  ⟨(c.def_ 48 (d := d_48) rfl).elim fun fd F => bind0 (f := 48) rfl F rfl rfl fun _ _ _ _ _ _ us hl => (match us, hl with | [_], _ => rfl),
  ⟨(c.def_ 49 (d := d_49) rfl).elim fun fd F => bind0 (f := 49) rfl F rfl rfl fun _ _ _ _ _ _ us hl => (match us, hl with | [_], _ => rfl),
  ⟨(c.def_ 50 (d := d_50) rfl).elim fun fd F => bind0 (f := 50) rfl F rfl rfl fun _ _ _ _ _ _ us hl => (match us, hl with | [_], _ => rfl),
  ⟨(c.def_ 51 (d := d_51) rfl).elim fun fd F => bind0 (f := 51) rfl F rfl rfl fun _ _ _ _ _ _ us hl => (match us, hl with | [_], _ => rfl),
  trivial⟩⟩⟩⟩⟩⟩⟩⟩⟩⟩⟩⟩⟩⟩⟩⟩⟩⟩⟩⟩⟩⟩⟩⟩⟩⟩⟩⟩⟩⟩⟩⟩⟩⟩⟩⟩⟩⟩⟩⟩⟩⟩⟩⟩⟩⟩⟩⟩⟩⟩⟩⟩
theorem keeps_of (c : Says fa fn ex K) : ∀ d ∈ tb.defs, PySem.W.keepIn K (.ref (adr K d.d.at_)) = true := fun d hd => by
  have hm : d.d ∈ fn := by
    have e : fn = tb.defs.map (·.d) := rfl
    rw [e]; exact List.mem_map.mpr ⟨d, hd, rfl⟩
  obtain ⟨fd, F⟩ := c.defs hm
  exact F.kp
theorem xt_of (X : K.In h) (G : h.Ns mainGlobals mg) (c : Says fa fn ex K) (cy : SaysY fa fn ex xs xv tb h K) (N : Nam K mg) (hex : ex K = true) (hP : P.main.file = file0) (htop : (P.main.scope.names.lookup ("super" : Str)).isSome = false) (tab : ∀ p ∈ csOf tb K, LamX.TabB base mg p.1 p.2) : Xt P w K mg base := by
  have hx : exX K = true := (Bool.and_eq_true_iff.mp hex).2
  unfold exX at hx
  simp only [Bool.and_eq_true] at hx
  obtain ⟨⟨⟨⟨⟨y0, y1⟩, y2⟩, y3⟩, y4⟩, y5⟩ := hx
  have m_BadNumber : mg "BadNumber" = some (.ref (He.ga K "BadNumber")) := He.glo_ok X G (c.fact 37 (f := .glo "BadNumber") rfl)
  have b_super : mg "super" = none := He.free_ok X G (c.fact 38 (f := .free "super") rfl)
  exact {
    f_17 := (c.def_ 17 (d := d_17) rfl).elim fun fd F => by rw [fd_eq F]; exact F
    tab := tab
    apart := y5
    m_BadNumber := m_BadNumber
    x_BadNumber := fun k => xc1_of (st := inClass (top 2) 0) y0 (Option.some.inj (congrArg (fun l : List FxW => l[0]?) cy.x)) hP htop b_super m_BadNumber rfl rfl rfl (He.eqO_ok (Bool.and_eq_true_iff.mp y1).2) rfl (NdefX.nscope_by (by kernel_rfl)) rfl rfl rfl (fun _ _ _ _ _ _ _ us hl => (match us, hl with | [_, _], _ => rfl)) (fun _ => rfl) (by decide) (by decide)
    xf_BadNumber := ⟨xfB_ok (Bool.and_eq_true_iff.mp y1).1, He.eqO_ok (Bool.and_eq_true_iff.mp y1).2⟩
    xe_BadNumber := excC_of y2
    ki_BadNumber_ValueError := of_decide_eq_true y3
    e_17_0 := y4
  }
theorem step (N : Nam K mg) (Z : Xt P w K mg base) (c : Says fa fn ex K) {k : Nat} {cf : Fn} (F : FOk (tb.lw K) P w K mg base k cf) : FOk (tb.lw K) P w K mg base (k + 13) (pickF (bodies cf) (nis cf)) := by
  refine F.next (fun f hf => allN (P := fun f => FnOk P w K mg base (L2.CX P w) (k + 13) ((tb.lw K).fad f) ((tb.lw K).fdt f) ((tb.lw K).fps f) (spM K (tb.lw K) ((tb.lw K).fps f).length (pickF (bodies cf) (nis cf) f))) (i := 0) (n := 52) ?_ f (Nat.zero_le _) (by have := of_decide_eq_true hf; have e : tb.defs.length = 52 := rfl; omega)) fun f hf => ?_
  · exact ⟨(c.def_ 0 (d := d_0) rfl).elim fun fd F0 => ok_0 N Z F0 F,
  ⟨(c.def_ 1 (d := d_1) rfl).elim fun fd F0 => ok_1 N Z F0 F,
  ⟨(c.def_ 2 (d := d_2) rfl).elim fun fd F0 => ok_2 N Z F0 F,
  ⟨(c.def_ 3 (d := d_3) rfl).elim fun fd F0 => ok_3 N Z F0 F,
  ⟨(c.def_ 4 (d := d_4) rfl).elim fun fd F0 => ok_4 N Z F0 F,
  ⟨(c.def_ 5 (d := d_5) rfl).elim fun fd F0 => ok_5 N Z F0 F,
  ⟨(c.def_ 6 (d := d_6) rfl).elim fun fd F0 => ok_6 N Z F0 F,
  ⟨(c.def_ 7 (d := d_7) rfl).elim fun fd F0 => ok_7 N Z F0 F,
  ⟨(c.def_ 8 (d := d_8) rfl).elim fun fd F0 => ok_8 N Z F0 F,
  ⟨(c.def_ 9 (d := d_9) rfl).elim fun fd F0 => ok_9 N Z F0 F,
  ⟨(c.def_ 10 (d := d_10) rfl).elim fun fd F0 => ok_10 N Z F0 F,
  ⟨(c.def_ 11 (d := d_11) rfl).elim fun fd F0 => ok_11 N Z F0 F,
  ⟨(c.def_ 12 (d := d_12) rfl).elim fun fd F0 => ok_12 N Z F0 F,
  ⟨(c.def_ 13 (d := d_13) rfl).elim fun fd F0 => ok_13 N Z F0 F,
  ⟨(c.def_ 14 (d := d_14) rfl).elim fun fd F0 => ok_14 N Z F0 F,
  ⟨(c.def_ 15 (d := d_15) rfl).elim fun fd F0 => ok_15 N Z F0 F,
  ⟨(c.def_ 16 (d := d_16) rfl).elim fun fd F0 => ok_16 N Z F0 F,
  ⟨(c.def_ 17 (d := d_17) rfl).elim fun fd F0 => ok_17 N Z F0 F,
  ⟨(c.def_ 18 (d := d_18) rfl).elim fun fd F0 => ok_18 N Z F0 F,
  ⟨(c.def_ 19 (d := d_19) rfl).elim fun fd F0 => ok_19 N Z F0 F,
  ⟨(c.def_ 20 (d := d_20) rfl).elim fun fd F0 => ok_20 N Z F0 F,
  ⟨(c.def_ 21 (d := d_21) rfl).elim fun fd F0 => ok_21 N Z F0 F,
  ⟨(c.def_ 22 (d := d_22) rfl).elim fun fd F0 => ok_22 N Z F0 F,
  ⟨(c.def_ 23 (d := d_23) rfl).elim fun fd F0 => ok_23 N Z F0 F,
  ⟨(c.def_ 24 (d := d_24) rfl).elim fun fd F0 => ok_24 N Z F0 F,
  ⟨(c.def_ 25 (d := d_25) rfl).elim fun fd F0 => ok_25 N Z F0 F,
  ⟨(c.def_ 26 (d := d_26) rfl).elim fun fd F0 => ok_26 N Z F0 F,
  ⟨(c.def_ 27 (d := d_27) rfl).elim fun fd F0 => ok_27 N Z F0 F,
  ⟨(c.def_ 28 (d := d_28) rfl).elim fun fd F0 => ok_28 N Z F0 F,
  ⟨(c.def_ 29 (d := d_29) rfl).elim fun fd F0 => ok_29 N Z F0 F,
  ⟨(c.def_ 30 (d := d_30) rfl).elim fun fd F0 => ok_30 N Z F0 F,
  ⟨(c.def_ 31 (d := d_31) rfl).elim fun fd F0 => ok_31 N Z F0 F,
  ⟨(c.def_ 32 (d := d_32) rfl).elim fun fd F0 => ok_32 N Z F0 F,
  ⟨(c.def_ 33 (d := d_33) rfl).elim fun fd F0 => ok_33 N Z F0 F,
  ⟨(c.def_ 34 (d := d_34) rfl).elim fun fd F0 => ok_34 N Z F0 F,
  ⟨(c.def_ 35 (d := d_35) rfl).elim fun fd F0 => ok_35 N Z F0 F,
  ⟨(c.def_ 36 (d := d_36) rfl).elim fun fd F0 => ok_36 N Z F0 F,
  ⟨(c.def_ 37 (d := d_37) rfl).elim fun fd F0 => ok_37 N Z F0 F,
  ⟨(c.def_ 38 (d := d_38) rfl).elim fun fd F0 => ok_38 N Z F0 F,
  ⟨(c.def_ 39 (d := d_39) rfl).elim fun fd F0 => ok_39 N Z F0 F,
  ⟨(c.def_ 40 (d := d_40) rfl).elim fun fd F0 => ok_40 N Z F0 F,
  ⟨(c.def_ 41 (d := d_41) rfl).elim fun fd F0 => ok_41 N Z F0 F,
  ⟨(c.def_ 42 (d := d_42) rfl).elim fun fd F0 => ok_42 N Z F0 F,
  ⟨(c.def_ 43 (d := d_43) rfl).elim fun fd F0 => ok_43 N Z F0 F,
  ⟨(c.def_ 44 (d := d_44) rfl).elim fun fd F0 => ok_44 N Z F0 F,
  ⟨(c.def_ 45 (d := d_45) rfl).elim fun fd F0 => ok_45 N Z F0 F,
  ⟨(c.def_ 46 (d := d_46) rfl).elim fun fd F0 => ok_46 N Z F0 F,
  ⟨(c.def_ 47 (d := d_47) rfl).elim fun fd F0 => ok_47 N Z F0 F,
  ⟨(c.def_ 48 (d := d_48) rfl).elim fun fd F0 => ok_48 N Z F0 F,
  ⟨(c.def_ 49 (d := d_49) rfl).elim fun fd F0 => ok_49 N Z F0 F,
  ⟨(c.def_ 50 (d := d_50) rfl).elim fun fd F0 => ok_50 N Z F0 F,
  ⟨(c.def_ 51 (d := d_51) rfl).elim fun fd F0 => ok_51 N Z F0 F,
  trivial⟩⟩⟩⟩⟩⟩⟩⟩⟩⟩⟩⟩⟩⟩⟩⟩⟩⟩⟩⟩⟩⟩⟩⟩⟩⟩⟩⟩⟩⟩⟩⟩⟩⟩⟩⟩⟩⟩⟩⟩⟩⟩⟩⟩⟩⟩⟩⟩⟩⟩⟩⟩
  · refine NiOk.none fun ds st z => ?_
    have e : pickF (bodies cf) (nis cf) (f + niB) = fun _ _ => .stuck := pickF_none (show 52 ≤ niB by decide) fun p hp => by
      exact absurd hp List.not_mem_nil
    rw [e] at z
    cases z
theorem all (N : Nam K mg) (Z : Xt P w K mg base) (c : Says fa fn ex K) (hex : ex K = true) : ∀ n : Nat, FOk (tb.lw K) P w K mg base (13 * n) (run n)
  | 0 => fo_of (Bool.and_eq_true_iff.mp hex).1 (by decide +kernel) (keeps_of c) fun f hf => allN (binds_of c) f (Nat.zero_le _) (by have e : tb.defs.length = 52 := rfl; omega)
  | n + 1 => step N Z c (all N Z c hex n)
theorem allG (N : Nam K mg) (Z : Xt P w K mg base) (c : Says fa fn ex K) (hex : ex K = true) : ∀ n : Nat, GdC P w K mg base (13 * n) (runG n)
  | 0 => ⟨fnP_stuck, fnP_stuck⟩
  | n + 1 => ⟨(c.def_ 24 (d := d_24) rfl).elim fun fd F0 => okg_24 N Z (allG N Z c hex n) F0 (all N Z c hex n), (c.def_ 25 (d := d_25) rfl).elim fun fd F0 => okg_25 N Z (allG N Z c hex n) F0 (all N Z c hex n)⟩
end
def LawOk : Prop := ∀ ns : List Int, ns.length ≤ 63 → ∀ ce : Cell, Ce ns ce → ∃ st, runG 14 25 [.ref 0] [ce] = .ok (.bl true) st
def spLaw (K : PySem.W.Frag) : L2.Sp := spM K (tb.lw K) 1 (runG 14 25)
theorem facts {P : Program} {w : World} {K : PySem.W.Frag} {h : Heap} {mg : Str → Option Value} {f : Addr} (X : K.In h) (G : h.Ns mainGlobals mg) (hfa : mg ("law" : Str) = some (.ref f)) (c : Says fa fn ex K) (cy : SaysY fa fn ex xs xv tb h K) (hex : ex K = true) (hlaw : (He.Fa.glo "law").ok K = true) (hP : P.main.file = file0) (htop : (P.main.scope.names.lookup ("super" : Str)).isSome = false) :
    ∃ fd : FuncData, (∀ (s : Shared) (v : Value), BindsTo s fd ⟨[v], []⟩ [("_law_script", v)]) ∧ ∀ base : Heap, K.In base → base.Ns mainGlobals mg → (∀ p ∈ csOf tb K, LamX.TabB base mg p.1 p.2) → FnP (Bare 182) P w K mg base (L2.CX P w) f fd ["_law_script"] (spLaw K) := by
  have e := hfa.symm.trans (He.glo_ok X G hlaw)
  cases e
  obtain ⟨fd, F⟩ := c.def_ 25 (d := d_25) rfl
  have b := FunD.bindsA (ps := ["_law_script"]) F fun _ _ _ _ _ _ us hl => match us, hl with | [_], _ => rfl
  have N := nam_of X G c hex
  have ef : (tb.lw K).fdt 25 = fd := fd_eq F
  refine ⟨fd, fun s v => b s [v] rfl, fun base hb1 hb2 tab => ?_⟩
  have := (allG (P := P) (w := w) (base := base) N (xt_of X G c cy N hex hP htop tab) c hex 14).c_25
  rw [ef] at this
  exact this
theorem law_ok : LawOk := law_ok'
end G08
open PySem PySem.W PySem.Calls PyProof.Rows
set_option maxRecDepth 100000 in
set_option maxHeartbeats 0 in
theorem PySem.Challenge.cw_overfloors_k08_ratios_holds : PySem.Challenge.rw_overfloors_k08_ratios.Holds := by
  w_on; o_law
  refine HandSHeadRun.head_any (r := OpenLaw.row PySem.Challenge.rw_overfloors_k08_ratios) (q := view (OpenLaw.row PySem.Challenge.rw_overfloors_k08_ratios).prog [31]) (H := G08.hk) (ob := G08.ob) (M := 20000) (loose := G08.names) (d := HandSHeadRun.topDef (OpenLaw.row PySem.Challenge.rw_overfloors_k08_ratios).prog 31) (kwd := []) G08.ob_eq
    (by kernel_rfl) (fun s => by kernel_rfl) G08.run_top (by kernel_rfl) (by kernel_rfl) (by kernel_rfl) (by rfl) (by first | assumption | decide +kernel) (by decide +kernel) ⟨rfl, rfl, rfl, rfl, rfl, by decide +kernel⟩ ?hw ?hc
  case hw => w_witness2
  case hc =>
    refine Gm.walk_ofP (Ar := Gm.Bare 182) (t := G08.tb) (l := PySem.Challenge.rw_overfloors_k08_ratios) (n := 63) (x := "_law_script") (CX := fun w => L2.CX (PySem.Challenge.rw_overfloors_k08_ratios).prog w) rfl (by decide) (by kernel_rfl) ⟨⟨rfl, by decide, by decide⟩, rfl⟩ ?F (fun _ _ _ _ _ => Gm.cx_no)
    intro w mg fa h Y G hmg0
    obtain ⟨K, KX, cy⟩ := Y
    have c := cy.s
    have hmg : mg ("law" : PySem.Str) = some (.ref fa) := by
      have e : (HandSHeadRun.topDef (OpenLaw.row PySem.Challenge.rw_overfloors_k08_ratios).prog 31).name = ("law" : PySem.Str) := by kernel_rfl
      rw [← e]
      exact hmg0
    obtain ⟨fd, hb, hF⟩ := G08.facts (P := (PySem.Challenge.rw_overfloors_k08_ratios).prog) (w := w) KX G hmg c cy c.more (c.fact 39 rfl) (by kernel_rfl) (by kernel_rfl)
    exact ⟨K, fd, G08.spLaw K, KX, cy.empty, cy.out, cy.hd, hb, fun H a ns hl _ hT hS => Gm.law_spY (fun ns ce h1 h2 => G08.law_ok ns h1 ce h2) hl hT hS, hF⟩
